import PyProof.Rows.All
import Wide.All
import OpenK.AllK
import Wide.FinOn
import KE.KStateDown
import Lean
import HandS.Base
import HandS.Call
import HandS.List
import HandS.Comp
import HandS.Ends
import HandS.Dict
import HandS.Iter
import HandS.Text
import HandS.More
import HandS.Exc
import HandS.TryOnly
import HandS.TryMany
import HandS.ExcOwn
import HandS.ExcInit
import HandS.ExcField
import HandS.ExcCtx
import HandS.Hot
import HandS.HotCalls
import HandS.Words
import HandS.WordsList
import HandS.WordsExc
import HandS.WordsDict
import HandS.Defaults
import HandS.Walk
import HandS.IsInst
import HandS.TupAny
import HandS.Conv
import HandS.Wide
import HandS.Deep
import HandS.Flow
import HandS.OwnEq
import HandS.Codes
import HandS.Style
import HandS.MakeKw
import HandS.Replace
import HandS.FStr
import HandS.TupMul
import HandS.RaiseMore
import PyProof.InstNe
import PyProof.ReprRoads
import KE.GoesNew
import HandS.Head0
import HandS.Head1
import HandS.Head2
import HandS.HeadEnd
import HandS.HeadHook1
import HandS.HeadHook2
import HandS.HeadHook3
import HandS.HeadHook4
import HandS.HeadWalk
import PySem.Challenge.RW_paperwide_k83_whole_grounds_read
import HandS.Small
import HandS.ReplaceDef
import HandS.ReplaceLit
import HandS.ReplaceList
import PyProof.StrOps2
import PyProof.ReprLen
import HandS.DictComp
import PyProof.P3Eq
set_option Elab.async false
set_option linter.all false
set_option maxRecDepth 100000
set_option maxHeartbeats 0
namespace K83
open PySem PySem.Spec PyProof.Rows L2
abbrev PRG : Program := PySem.Challenge.pw_paperwide_k83_whole_grounds_read
def top (i : Nat) : Stmt := PRG.main.body.getD i (.Pass ⟨0, 0, 0, 0⟩)
abbrev s_is_whole : Stmt := top 16
abbrev s_is_number : Stmt := top 17
abbrev s_is_name : Stmt := top 18
abbrev s_has_form : Stmt := top 19
abbrev s_is_term : Stmt := top 20
abbrev s_are_terms : Stmt := top 25
abbrev s_is_thing_row : Stmt := top 26
abbrev s_is_mean_row : Stmt := top 27
abbrev s_is_hold_row : Stmt := top 28
abbrev s_is_row : Stmt := top 30
abbrev s_need_rows : Stmt := top 33
abbrev s_words_of : Stmt := top 39
abbrev s_word_at : Stmt := top 40
abbrev s_number_in : Stmt := top 41
abbrev s_height_in : Stmt := top 42
abbrev s_place_word : Stmt := top 43
abbrev s_kind_word : Stmt := top 44
abbrev s_name_word : Stmt := top 45
abbrev s_maker_word : Stmt := top 46
abbrev s_eater_word : Stmt := top 47
abbrev s_single_word : Stmt := top 49
abbrev s_binder_number : Stmt := top 50
abbrev s_need_word : Stmt := top 53
abbrev s_read_term : Stmt := top 54
abbrev s_read_row : Stmt := top 55
abbrev s_read_part : Stmt := top 56
abbrev s_read_words : Stmt := top 57
abbrev s_read_ground : Stmt := top 59
abbrev s_law_cell : Stmt := top 61
abbrev s_law_box : Stmt := top 62
abbrev s_law_take : Stmt := top 63
abbrev s_law_words : Stmt := top 64
abbrev s_law_figures : Stmt := top 65
abbrev s_law_is_name : Stmt := top 66
abbrev s_law_lone : Stmt := top 67
abbrev s_law_begun : Stmt := top 68
abbrev s_law_row : Stmt := top 69
abbrev s_law_built : Stmt := top 70
abbrev s_law_met : Stmt := top 71
abbrev s_law_read : Stmt := top 72
abbrev s_law_leaf_word : Stmt := top 73
abbrev s_law_part_words : Stmt := top 74
abbrev s_law_term_words : Stmt := top 75
abbrev s_law_thing_words : Stmt := top 76
abbrev s_law_rows_words : Stmt := top 77
abbrev s_law_strange : Stmt := top 78
abbrev s_law_otherwise : Stmt := top 79
abbrev s_law_text : Stmt := top 80
abbrev s_law_thing_line : Stmt := top 81
abbrev s_law_line : Stmt := top 82
abbrev s_law_due : Stmt := top 83
abbrev s_law_caught : Stmt := top 84
abbrev s_law : Stmt := top 85
abbrev m_NoGround_init : Stmt := inClass (top 4) 0
abbrev m_NoRow_init : Stmt := inClass (top 5) 0
abbrev m_Doubled_init : Stmt := inClass (top 6) 0
abbrev m_NoText_init : Stmt := inClass (top 7) 0
abbrev m_NoSign_init : Stmt := inClass (top 8) 0
abbrev m_NoLine_init : Stmt := inClass (top 9) 0
abbrev m_Ground_init : Stmt := inClass (top 34) 0
abbrev m_Ground_rows : Stmt := inClass (top 34) 1
abbrev m_Ground_eq : Stmt := inClass (top 34) 7
abbrev m_Rows_init : Stmt := inClass (top 58) 0
abbrev m_Rows_thing : Stmt := inClass (top 58) 1
abbrev m_Rows_bound : Stmt := inClass (top 58) 2
abbrev m_Rows_maker : Stmt := inClass (top 58) 3
abbrev m_Rows_arg : Stmt := inClass (top 58) 4
abbrev m_Rows_mean : Stmt := inClass (top 58) 5
abbrev m_Rows_hold : Stmt := inClass (top 58) 6
abbrev m_Rows_taken : Stmt := inClass (top 58) 7
abbrev m_Rows_told : Stmt := inClass (top 58) 8
def fn : List He.DefD := ([
  ⟨("is_whole", none), "is_whole", "is_whole", defArgs s_is_whole, defBody s_is_whole, defScope s_is_whole, [], []⟩, 
  ⟨("is_number", none), "is_number", "is_number", defArgs s_is_number, defBody s_is_number, defScope s_is_number, [], []⟩, 
  ⟨("is_name", none), "is_name", "is_name", defArgs s_is_name, defBody s_is_name, defScope s_is_name, [], []⟩, 
  ⟨("has_form", none), "has_form", "has_form", defArgs s_has_form, defBody s_has_form, defScope s_has_form, [], []⟩, 
  ⟨("is_term", none), "is_term", "is_term", defArgs s_is_term, defBody s_is_term, defScope s_is_term, [], []⟩, 
  ⟨("are_terms", none), "are_terms", "are_terms", defArgs s_are_terms, defBody s_are_terms, defScope s_are_terms, [], []⟩, 
  ⟨("is_thing_row", none), "is_thing_row", "is_thing_row", defArgs s_is_thing_row, defBody s_is_thing_row, defScope s_is_thing_row, [], []⟩, 
  ⟨("is_mean_row", none), "is_mean_row", "is_mean_row", defArgs s_is_mean_row, defBody s_is_mean_row, defScope s_is_mean_row, [], []⟩, 
  ⟨("is_hold_row", none), "is_hold_row", "is_hold_row", defArgs s_is_hold_row, defBody s_is_hold_row, defScope s_is_hold_row, [], []⟩, 
  ⟨("is_row", none), "is_row", "is_row", defArgs s_is_row, defBody s_is_row, defScope s_is_row, [], []⟩] : List He.DefD) ++ ([
  ⟨("need_rows", none), "need_rows", "need_rows", defArgs s_need_rows, defBody s_need_rows, defScope s_need_rows, [], []⟩, 
  ⟨("words_of", none), "words_of", "words_of", defArgs s_words_of, defBody s_words_of, defScope s_words_of, [], []⟩, 
  ⟨("word_at", none), "word_at", "word_at", defArgs s_word_at, defBody s_word_at, defScope s_word_at, [], []⟩, 
  ⟨("number_in", none), "number_in", "number_in", defArgs s_number_in, defBody s_number_in, defScope s_number_in, [.int 3], []⟩, 
  ⟨("height_in", none), "height_in", "height_in", defArgs s_height_in, defBody s_height_in, defScope s_height_in, [], []⟩, 
  ⟨("place_word", none), "place_word", "place_word", defArgs s_place_word, defBody s_place_word, defScope s_place_word, [], []⟩, 
  ⟨("kind_word", none), "kind_word", "kind_word", defArgs s_kind_word, defBody s_kind_word, defScope s_kind_word, [], []⟩, 
  ⟨("name_word", none), "name_word", "name_word", defArgs s_name_word, defBody s_name_word, defScope s_name_word, [], []⟩, 
  ⟨("maker_word", none), "maker_word", "maker_word", defArgs s_maker_word, defBody s_maker_word, defScope s_maker_word, [], []⟩, 
  ⟨("eater_word", none), "eater_word", "eater_word", defArgs s_eater_word, defBody s_eater_word, defScope s_eater_word, [], []⟩] : List He.DefD) ++ ([
  ⟨("single_word", none), "single_word", "single_word", defArgs s_single_word, defBody s_single_word, defScope s_single_word, [], []⟩, 
  ⟨("binder_number", none), "binder_number", "binder_number", defArgs s_binder_number, defBody s_binder_number, defScope s_binder_number, [], []⟩, 
  ⟨("need_word", none), "need_word", "need_word", defArgs s_need_word, defBody s_need_word, defScope s_need_word, [], []⟩, 
  ⟨("read_term", none), "read_term", "read_term", defArgs s_read_term, defBody s_read_term, defScope s_read_term, [], []⟩, 
  ⟨("read_row", none), "read_row", "read_row", defArgs s_read_row, defBody s_read_row, defScope s_read_row, [], []⟩, 
  ⟨("read_part", none), "read_part", "read_part", defArgs s_read_part, defBody s_read_part, defScope s_read_part, [], []⟩, 
  ⟨("read_words", none), "read_words", "read_words", defArgs s_read_words, defBody s_read_words, defScope s_read_words, [], []⟩, 
  ⟨("read_ground", none), "read_ground", "read_ground", defArgs s_read_ground, defBody s_read_ground, defScope s_read_ground, [], []⟩, 
  ⟨("_law_cell", none), "_law_cell", "_law_cell", defArgs s_law_cell, defBody s_law_cell, defScope s_law_cell, [], []⟩, 
  ⟨("_law_box", none), "_law_box", "_law_box", defArgs s_law_box, defBody s_law_box, defScope s_law_box, [], []⟩] : List He.DefD) ++ ([
  ⟨("_law_take", none), "_law_take", "_law_take", defArgs s_law_take, defBody s_law_take, defScope s_law_take, [], []⟩, 
  ⟨("_law_words", none), "_law_words", "_law_words", defArgs s_law_words, defBody s_law_words, defScope s_law_words, [], []⟩, 
  ⟨("_law_figures", none), "_law_figures", "_law_figures", defArgs s_law_figures, defBody s_law_figures, defScope s_law_figures, [], []⟩, 
  ⟨("_law_is_name", none), "_law_is_name", "_law_is_name", defArgs s_law_is_name, defBody s_law_is_name, defScope s_law_is_name, [], []⟩, 
  ⟨("_law_lone", none), "_law_lone", "_law_lone", defArgs s_law_lone, defBody s_law_lone, defScope s_law_lone, [], []⟩, 
  ⟨("_law_begun", none), "_law_begun", "_law_begun", defArgs s_law_begun, defBody s_law_begun, defScope s_law_begun, [], []⟩, 
  ⟨("_law_row", none), "_law_row", "_law_row", defArgs s_law_row, defBody s_law_row, defScope s_law_row, [], []⟩, 
  ⟨("_law_built", none), "_law_built", "_law_built", defArgs s_law_built, defBody s_law_built, defScope s_law_built, [], []⟩, 
  ⟨("_law_met", none), "_law_met", "_law_met", defArgs s_law_met, defBody s_law_met, defScope s_law_met, [], []⟩, 
  ⟨("_law_read", none), "_law_read", "_law_read", defArgs s_law_read, defBody s_law_read, defScope s_law_read, [], []⟩] : List He.DefD) ++ ([
  ⟨("_law_leaf_word", none), "_law_leaf_word", "_law_leaf_word", defArgs s_law_leaf_word, defBody s_law_leaf_word, defScope s_law_leaf_word, [], []⟩, 
  ⟨("_law_part_words", none), "_law_part_words", "_law_part_words", defArgs s_law_part_words, defBody s_law_part_words, defScope s_law_part_words, [], []⟩, 
  ⟨("_law_term_words", none), "_law_term_words", "_law_term_words", defArgs s_law_term_words, defBody s_law_term_words, defScope s_law_term_words, [], []⟩, 
  ⟨("_law_thing_words", none), "_law_thing_words", "_law_thing_words", defArgs s_law_thing_words, defBody s_law_thing_words, defScope s_law_thing_words, [], []⟩, 
  ⟨("_law_rows_words", none), "_law_rows_words", "_law_rows_words", defArgs s_law_rows_words, defBody s_law_rows_words, defScope s_law_rows_words, [], []⟩, 
  ⟨("_law_strange", none), "_law_strange", "_law_strange", defArgs s_law_strange, defBody s_law_strange, defScope s_law_strange, [], []⟩, 
  ⟨("_law_otherwise", none), "_law_otherwise", "_law_otherwise", defArgs s_law_otherwise, defBody s_law_otherwise, defScope s_law_otherwise, [], []⟩, 
  ⟨("_law_text", none), "_law_text", "_law_text", defArgs s_law_text, defBody s_law_text, defScope s_law_text, [], []⟩, 
  ⟨("_law_thing_line", none), "_law_thing_line", "_law_thing_line", defArgs s_law_thing_line, defBody s_law_thing_line, defScope s_law_thing_line, [], []⟩, 
  ⟨("_law_line", none), "_law_line", "_law_line", defArgs s_law_line, defBody s_law_line, defScope s_law_line, [], []⟩] : List He.DefD) ++ ([
  ⟨("_law_due", none), "_law_due", "_law_due", defArgs s_law_due, defBody s_law_due, defScope s_law_due, [], []⟩, 
  ⟨("_law_caught", none), "_law_caught", "_law_caught", defArgs s_law_caught, defBody s_law_caught, defScope s_law_caught, [], []⟩, 
  ⟨("law", none), "law", "law", defArgs s_law, defBody s_law, defScope s_law, [], []⟩, 
  ⟨("NoGround", some "__init__"), "__init__", "NoGround.__init__", defArgs m_NoGround_init, defBody m_NoGround_init, defScope m_NoGround_init, [], []⟩, 
  ⟨("NoRow", some "__init__"), "__init__", "NoRow.__init__", defArgs m_NoRow_init, defBody m_NoRow_init, defScope m_NoRow_init, [], []⟩, 
  ⟨("Doubled", some "__init__"), "__init__", "Doubled.__init__", defArgs m_Doubled_init, defBody m_Doubled_init, defScope m_Doubled_init, [], []⟩, 
  ⟨("NoText", some "__init__"), "__init__", "NoText.__init__", defArgs m_NoText_init, defBody m_NoText_init, defScope m_NoText_init, [], []⟩, 
  ⟨("NoSign", some "__init__"), "__init__", "NoSign.__init__", defArgs m_NoSign_init, defBody m_NoSign_init, defScope m_NoSign_init, [], []⟩, 
  ⟨("NoLine", some "__init__"), "__init__", "NoLine.__init__", defArgs m_NoLine_init, defBody m_NoLine_init, defScope m_NoLine_init, [], []⟩, 
  ⟨("Ground", some "__init__"), "__init__", "Ground.__init__", defArgs m_Ground_init, defBody m_Ground_init, defScope m_Ground_init, [.non], []⟩] : List He.DefD) ++ ([
  ⟨("Ground", some "rows"), "rows", "Ground.rows", defArgs m_Ground_rows, defBody m_Ground_rows, defScope m_Ground_rows, [], []⟩, 
  ⟨("Ground", some "__eq__"), "__eq__", "Ground.__eq__", defArgs m_Ground_eq, defBody m_Ground_eq, defScope m_Ground_eq, [], []⟩, 
  ⟨("Rows", some "__init__"), "__init__", "Rows.__init__", defArgs m_Rows_init, defBody m_Rows_init, defScope m_Rows_init, [], []⟩, 
  ⟨("Rows", some "thing"), "thing", "Rows.thing", defArgs m_Rows_thing, defBody m_Rows_thing, defScope m_Rows_thing, [], []⟩, 
  ⟨("Rows", some "bound"), "bound", "Rows.bound", defArgs m_Rows_bound, defBody m_Rows_bound, defScope m_Rows_bound, [], []⟩, 
  ⟨("Rows", some "maker"), "maker", "Rows.maker", defArgs m_Rows_maker, defBody m_Rows_maker, defScope m_Rows_maker, [], []⟩, 
  ⟨("Rows", some "arg"), "arg", "Rows.arg", defArgs m_Rows_arg, defBody m_Rows_arg, defScope m_Rows_arg, [], []⟩, 
  ⟨("Rows", some "mean"), "mean", "Rows.mean", defArgs m_Rows_mean, defBody m_Rows_mean, defScope m_Rows_mean, [], []⟩, 
  ⟨("Rows", some "hold"), "hold", "Rows.hold", defArgs m_Rows_hold, defBody m_Rows_hold, defScope m_Rows_hold, [], []⟩, 
  ⟨("Rows", some "taken"), "taken", "Rows.taken", defArgs m_Rows_taken, defBody m_Rows_taken, defScope m_Rows_taken, [], []⟩] : List He.DefD) ++ ([
  ⟨("Rows", some "told"), "told", "Rows.told", defArgs m_Rows_told, defBody m_Rows_told, defScope m_Rows_told, [], []⟩] : List He.DefD)
def fa : List He.Fa := ([.glo "PaperError", .glo "NoGround", .glo "NoRow", .glo "Doubled", .glo "NoText", .glo "NoSign", .glo "NoLine", .glo "KEPT", .glo "FORMS", .glo "is_whole", .glo "is_number", .glo "is_name", .glo "has_form", .glo "is_term", .glo "are_terms", .glo "is_thing_row", .glo "is_mean_row", .glo "is_hold_row", .glo "ROWS", .glo "is_row", .glo "need_rows", .glo "Ground", .glo "words_of", .glo "word_at", .glo "number_in", .glo "height_in", .glo "place_word", .glo "kind_word", .glo "name_word", .glo "maker_word"] : List He.Fa) ++ ([.glo "eater_word", .glo "MARKED", .glo "single_word", .glo "binder_number", .glo "TRIPLES", .glo "need_word", .glo "read_term", .glo "read_row", .glo "read_part", .glo "read_words", .glo "Rows", .glo "read_ground", .glo "_law_cell", .glo "_law_box", .glo "_law_take", .glo "_law_words", .glo "_law_figures", .glo "_law_is_name", .glo "_law_lone", .glo "_law_begun", .glo "_law_row", .glo "_law_built", .glo "_law_met", .glo "_law_read", .glo "_law_leaf_word", .glo "_law_part_words", .glo "_law_term_words", .glo "_law_thing_words", .glo "_law_rows_words", .glo "_law_strange"] : List He.Fa) ++ ([.glo "_law_otherwise", .glo "_law_text", .glo "_law_thing_line", .glo "_law_line", .glo "_law_due", .glo "_law_caught", .glo "law", .int "MOST_KIND" 5, .int "MOST_BOUNDS" 3, .int "MOST_MAKERS" 5, .int "MOST_ARGS" 4, .int "MOST_ROWS" 24, .int "MOST_FIGURES" 30, .str "SMALL" "abcdefghijklmnopqrstuvwxyz", .str "HEIGHTS" "012345", .str "FIGURES" "0123456789", .free "KeyError", .free "ValueError", .free "all", .free "bool", .free "dict", .free "enumerate", .free "int", .free "isinstance", .free "len", .free "list", .free "max", .free "min", .free "range", .free "repr"] : List He.Fa) ++ ([.free "str", .free "tuple", .free "zip", .cls "Ground", .mkr "Ground", .meth "Ground" "rows", .noat "Ground" "kept_rows", .noat "Ground" "kept_by", .cls "Rows", .mkr "Rows", .meth "Rows" "thing", .meth "Rows" "bound", .meth "Rows" "maker", .meth "Rows" "arg", .meth "Rows" "mean", .meth "Rows" "hold", .meth "Rows" "taken", .meth "Rows" "told", .noat "Rows" "kept_rows", .noat "Rows" "kept_open"] : List He.Fa)
def kv_FORMS : List (Str × He.Dv) := [("at", .str "n"), ("kind", .str "h"), ("all", .str "tt"), ("fun", .str "tt"), ("app", .str "tt"), ("name", .str "w"), ("thing", .str "w"), ("maker", .str "wn"), ("eater", .str "wh"), ("same", .str "ttt"), ("self", .str "tt"), ("put", .str "ttt")]
def kv_ROWS : List (Str × He.Dv) := [("thing", .glo "is_thing_row"), ("mean", .glo "is_mean_row"), ("hold", .glo "is_hold_row")]
def kv_MARKED : List (Str × He.Dv) := [("*", .glo "kind_word"), ("@", .glo "name_word")]
def kv_TRIPLES : List (Str × He.Dv) := [("same", .int 3), ("self", .int 2), ("put", .int 3)]
def ts : List He.Tab := [((fun K => He.ga K "FORMS"), ["at", "kind", "all", "fun", "app", "name", "thing", "maker", "eater", "same", "self", "put"]), ((fun K => He.ga K "ROWS"), ["thing", "mean", "hold"]), ((fun K => He.ga K "MARKED"), ["*", "@"]), ((fun K => He.ga K "TRIPLES"), ["same", "self", "put"])]
def tv_KEPT : List He.Dv := [.str "all", .str "fun", .str "same", .str "self", .str "put"]
def loose : List Str := (["_wall", "PaperError", "NotThere", "NoGround", "NoRow", "Doubled", "NoText", "NoSign", "NoLine", "NoThing", "SMALL", "KEPT", "MOST_KIND", "FORMS", "is_whole", "is_number", "is_name", "has_form", "is_term", "MOST_BOUNDS", "MOST_MAKERS", "MOST_ARGS", "are_terms", "is_thing_row", "is_mean_row", "is_hold_row", "ROWS", "is_row", "MOST_ROWS", "need_rows"] : List Str) ++ (["Ground", "HEIGHTS", "FIGURES", "MOST_FIGURES", "words_of", "word_at", "number_in", "height_in", "place_word", "kind_word", "name_word", "maker_word", "eater_word", "MARKED", "single_word", "binder_number", "TRIPLES", "need_word", "read_term", "read_row", "read_part", "read_words", "Rows", "read_ground", "_law_cell", "_law_box", "_law_take", "_law_words", "_law_figures", "_law_is_name"] : List Str) ++ (["_law_lone", "_law_begun", "_law_row", "_law_built", "_law_met", "_law_read", "_law_leaf_word", "_law_part_words", "_law_term_words", "_law_thing_words", "_law_rows_words", "_law_strange", "_law_otherwise", "_law_text", "_law_thing_line", "_law_line", "_law_due", "_law_caught"] : List Str)
abbrev lawAt : Nat := 85
/-! ### what is told of the exception classes -/
def oex1 (K : PySem.W.Frag) (C : Addr) : Bool := match K.lookup C with
  | some ⟨.type c, _, .cls cd, sl⟩ => decide (c = "type") && (match cd.mro, sl.toList with
    | .ref C' :: bm, [_, _, _, _, some (.builtin n), _] => decide (C' = C) && (decide (n = "ValueError.__new__") && (!cd.hasDel && (cd.hasDict && PySem.HandSPX.refsVE bm)))
    | _, _ => false)
  | _ => false
def oexB (K : PySem.W.Frag) (C : Addr) : Bool := oex1 K C && (decide (PySem.W.findIn K (.ref C) "__setattr__" = some (some (.builtin "object.__setattr__"))) && (decide (PySem.W.subIn K (.ref C) (.type "BaseException") = some true) &&
  (decide (PySem.W.typeIn K (.ref C) = some (.type "type")) && PySem.W.keepIn K (.ref C))))
theorem oex1_ok {K : PySem.W.Frag} {C : Addr} (h : oex1 K C = true) : ∃ nm q N bs bm sn sub ab col dd k0 k1 k2 k3 k5, K.lookup C = some (excClassObj nm q C N bs bm true sn sub ab col dd k0 k1 k2 k3 k5 "ValueError.__new__") ∧ PySem.HandSPX.refsVE bm = true := by
  unfold oex1 at h
  split at h
  · rename_i c od cd sl e
    obtain ⟨h1, h2⟩ := He.ba h
    split at h2
    · rename_i C' bm k0 k1 k2 k3 n k5 e1 e2
      obtain ⟨h3, h4⟩ := He.ba h2
      obtain ⟨h5, h6⟩ := He.ba h4
      obtain ⟨h7, h8⟩ := He.ba h6
      obtain ⟨h9, h10⟩ := He.ba h8
      have a1 : c = "type" := of_decide_eq_true h1
      have a2 : C' = C := of_decide_eq_true h3
      have a3 : n = "ValueError.__new__" := of_decide_eq_true h5
      subst a1 a2 a3
      obtain ⟨nm, bs, mro, N, q, hd, sn, sub, ab, col, del⟩ := cd
      dsimp only at e1 h7 h9
      subst e1
      have b1 : del = false := by
        cases del with
        | false => rfl
        | true => cases h7
      have b2 : sl = #[k0, k1, k2, k3, some (.builtin "ValueError.__new__"), k5] := by
        have : sl.toList.toArray = sl := Array.toArray_toList
        rw [← this, e2]
      subst b1 b2
      have b3 : hd = true := h9
      subst b3
      exact ⟨nm, q, N, bs, bm, sn, sub, ab, col, od, k0, k1, k2, k3, k5, e, h10⟩
    · cases h2
  · cases h
theorem oexB_ok {K : PySem.W.Frag} {C : Addr} (h : oexB K C = true) : OexC K C := by
  obtain ⟨h1, h⟩ := He.ba h
  obtain ⟨h2, h⟩ := He.ba h
  obtain ⟨h3, h⟩ := He.ba h
  obtain ⟨h4, h5⟩ := He.ba h
  exact ⟨oex1_ok h1, of_decide_eq_true h2, of_decide_eq_true h3, of_decide_eq_true h4, h5⟩
/-- an own exception class with __init__(self, f) -/
def excB (K : PySem.W.Frag) (x f : Str) : Bool := oexB K (He.ga K x) && (xfB K (He.ga K x) && (decide (PySem.W.findIn K (.ref (He.ga K x)) f = some none) &&
  (decide (PySem.W.findIn K (.ref (He.ga K x)) "__init__" = some (some (.ref (He.ma K (He.ga K x) "__init__")))) && decide (PySem.W.typeIn K (.ref (He.ma K (He.ga K x) "__init__")) = some (.type "function")))))
structure ExcF (K : PySem.W.Frag) (x f : Str) : Prop where
  o : OexC K (He.ga K x)
  xf : XfC K (He.ga K x)
  no : PySem.W.findIn K (.ref (He.ga K x)) f = some none
  i : PySem.W.findIn K (.ref (He.ga K x)) "__init__" = some (some (.ref (He.ma K (He.ga K x) "__init__")))
  t : PySem.W.typeIn K (.ref (He.ma K (He.ga K x) "__init__")) = some (.type "function")
theorem excB_ok {K : PySem.W.Frag} {x f : Str} (h : excB K x f = true) : ExcF K x f := by
  obtain ⟨h1, h⟩ := He.ba h
  obtain ⟨h2, h⟩ := He.ba h
  obtain ⟨h3, h⟩ := He.ba h
  obtain ⟨h4, h5⟩ := He.ba h
  exact ⟨oexB_ok h1, xfB_ok h2, of_decide_eq_true h3, of_decide_eq_true h4, of_decide_eq_true h5⟩
def exmB (K : PySem.W.Frag) (x y : Str) (b : Bool) : Bool := (He.Fa.exm x y b).ok K
/-! ### what is told of the class Ground -/
def neB (K : PySem.W.Frag) (C f : Addr) : Bool := match K.lookup C with
  | some ⟨.type c, _, .cls cd, sl⟩ => decide (c = "type") && (match cd.mro, sl.toList with
    | [.ref C', .type b], [_, _, _, _, some (.builtin _), _] => decide (C' = C) && (decide (b = "object") && (!cd.hasDel &&
      (decide (PySem.W.nsIn K cd.ns "__eq__" = some (some (.ref f))) && (decide (PySem.W.nsIn K cd.ns "__ne__" = some none) && (decide (PySem.W.typeIn K (.ref f) = some (.type "function")) && PySem.W.nsOkIn K cd.ns)))))
    | _, _ => false)
  | _ => false
theorem neB_ok {K : PySem.W.Frag} {C f : Addr} (h : neB K C f = true) : ∃ nm q N bs hd sn sub ab col dd k0 k1 k2 k3 k5 n, K.lookup C = some (excClassObj nm q C N bs [.type "object"] hd sn sub ab col dd k0 k1 k2 k3 k5 n) ∧
    PySem.W.nsIn K N "__eq__" = some (some (.ref f)) ∧ PySem.W.nsIn K N "__ne__" = some none ∧ PySem.W.typeIn K (.ref f) = some (.type "function") ∧ PySem.W.nsOkIn K N = true := by
  unfold neB at h
  split at h
  · rename_i c od cd sl e
    obtain ⟨h1, h2⟩ := He.ba h
    split at h2
    · rename_i C' b k0 k1 k2 k3 n k5 e1 e2
      obtain ⟨h3, h4⟩ := He.ba h2
      obtain ⟨h5, h6⟩ := He.ba h4
      obtain ⟨h7, h8⟩ := He.ba h6
      obtain ⟨h9, h10⟩ := He.ba h8
      obtain ⟨h11, h13⟩ := He.ba h10
      obtain ⟨h12, h14⟩ := He.ba h13
      have a1 : c = "type" := of_decide_eq_true h1
      have a2 : C' = C := of_decide_eq_true h3
      have a3 : b = "object" := of_decide_eq_true h5
      subst a1 a2 a3
      obtain ⟨nm, bs, mro, N, q, hd, sn, sub, ab, col, del⟩ := cd
      dsimp only at e1 h7 h9 h11 h14
      subst e1
      have b1 : del = false := by
        cases del with
        | false => rfl
        | true => cases h7
      have b2 : sl = #[k0, k1, k2, k3, some (.builtin n), k5] := by
        have : sl.toList.toArray = sl := Array.toArray_toList
        rw [← this, e2]
      subst b1 b2
      exact ⟨nm, q, N, bs, hd, sn, sub, ab, col, od, k0, k1, k2, k3, k5, n, e, of_decide_eq_true h9, of_decide_eq_true h11, of_decide_eq_true h12, h14⟩
    · cases h2
  · cases h
def insB (K : PySem.W.Frag) (C : Addr) : Bool := decide (PySem.W.findIn K (.ref C) "__class__" = some (some (.builtin "object.__class__"))) && (decide (PySem.W.specialIn K (.builtin "object.__class__") "__get__" = some (some (.builtin "getset_descriptor.__get__"))) &&
  (decide (PySem.W.takesIn K (.builtin "object.__class__") = some true) && (decide (PySem.W.mroIn K C (.type "object") = some true) && (decide (PySem.W.kitOne K (.ref C) (.ref C) = some true) &&
  (decide (PySem.W.kitOne K (.ref C) (.type "str") = some false) && decide (PySem.W.kitOne K (.ref C) (.type "list") = some false))))))
structure InsG (K : PySem.W.Frag) (C : Addr) : Prop where
  ha : PySem.W.findIn K (.ref C) "__class__" = some (some (.builtin "object.__class__"))
  hn : PySem.W.specialIn K (.builtin "object.__class__") "__get__" = some (some (.builtin "getset_descriptor.__get__"))
  htk : PySem.W.takesIn K (.builtin "object.__class__") = some true
  hm : PySem.W.mroIn K C (.type "object") = some true
  me : PySem.W.kitOne K (.ref C) (.ref C) = some true
  str : PySem.W.kitOne K (.ref C) (.type "str") = some false
  lst : PySem.W.kitOne K (.ref C) (.type "list") = some false
theorem insB_ok {K : PySem.W.Frag} {C : Addr} (h : insB K C = true) : InsG K C := by
  obtain ⟨h1, h⟩ := He.ba h
  obtain ⟨h2, h⟩ := He.ba h
  obtain ⟨h3, h⟩ := He.ba h
  obtain ⟨h4, h⟩ := He.ba h
  obtain ⟨h5, h⟩ := He.ba h
  obtain ⟨h6, h7⟩ := He.ba h
  exact ⟨of_decide_eq_true h1, of_decide_eq_true h2, of_decide_eq_true h3, of_decide_eq_true h4, of_decide_eq_true h5, of_decide_eq_true h6, of_decide_eq_true h7⟩
def exms : List (Str × Str × Bool) := [("NoSign", "NoSign", true), ("NoText", "NoText", true), ("NoLine", "NoText", false), ("NoLine", "NoLine", true), ("NoRow", "NoText", false), ("NoRow", "NoLine", false), ("NoRow", "NoRow", true), ("Doubled", "NoText", false), ("Doubled", "NoLine", false), ("Doubled", "NoRow", false), ("Doubled", "Doubled", true),
  ("NoGround", "NoText", false), ("NoGround", "NoLine", false), ("NoGround", "NoRow", false), ("NoGround", "Doubled", false), ("NoGround", "NoGround", true)]
def exB1 (K : PySem.W.Frag) : Bool := excB K "NoGround" "found" && (excB K "NoRow" "found" && (excB K "Doubled" "found" && (excB K "NoText" "found" && (excB K "NoSign" "at" && (excB K "NoLine" "found" && exms.all fun q => exmB K q.1 q.2.1 q.2.2)))))
def exB2 (K : PySem.W.Frag) : Bool := He.tupB K "KEPT" tv_KEPT && (He.valsB K (He.ga K "FORMS") kv_FORMS && (He.valsB K (He.ga K "ROWS") kv_ROWS && (He.valsB K (He.ga K "MARKED") kv_MARKED && (He.valsB K (He.ga K "TRIPLES") kv_TRIPLES &&
  (neB K (He.ga K "Ground") (He.ma K (He.ga K "Ground") "__eq__") && (insB K (He.ga K "Ground") && decide (PySem.W.findIn K (.ref (He.ga K "Ground")) "__eq__" = some (some (.ref (He.ma K (He.ga K "Ground") "__eq__"))))))))))
def ex (K : PySem.W.Frag) : Bool := exB1 K && exB2 K
abbrev R : PySem.W.OpenRow := PySem.W.OpenLaw.row PySem.Challenge.rw_paperwide_k83_whole_grounds_read
abbrev hk : PySem.W.Hook := He.hookX 4 fa fn ts [] ex
def ob (s : PySem.W.SharedT) : He.AlX := He.obsX 4 fa fn ts [] ex (HandSHeadRun.getT s)
theorem ob_eq (s : PySem.W.SharedT) : ob s = hk.obs s.abs := He.obsX_eq (HandSHeadRun.getT_eq s)
theorem run_f (w : World) : HandSHeadRun.RunEq R (PySem.W.view R.prog [lawAt]) hk ob 12000 loose (w.withFollow "special-get-raises" false) := by intro os; kernel_rfl
theorem run_t (w : World) : HandSHeadRun.RunEq R (PySem.W.view R.prog [lawAt]) hk ob 12000 loose (w.withFollow "special-get-raises" true) := by intro os; kernel_rfl
theorem run (w : World) : HandSHeadRun.RunEq R (PySem.W.view R.prog [lawAt]) hk ob 12000 loose w :=
  PySem.W.byRow2 "special-get-raises" (P := fun w => HandSHeadRun.RunEq R (PySem.W.view R.prog [lawAt]) hk ob 12000 loose w) run_f run_t w
end K83
namespace K83
open PySem PySem.Spec PyProof.Rows L2
/-! ### the top's tables: their keys are known -/
def TabOk (K : PySem.W.Frag) (w : World) (a : Addr) (ks : List Str) : Prop := ∃ es n, KDict K w a es n ∧ es.toList.map He.keyOf = He.keysIn w.params ks
theorem dicW_keys {K : PySem.W.Frag} {w : World} {a : Addr} {ks : List Str} (h : He.dicW K a = some (He.keysIn w.params ks)) : TabOk K w a ks := by
  obtain ⟨es, n, D⟩ := He.dicW_ok h
  refine ⟨es, n, D, ?_⟩
  unfold He.dicW at h
  rw [D.at_] at h
  have h1 : (match decide (("dict" : String) = "dict") && ((#[] : Array (Option Value)).isEmpty && !(a == sysModules)) with
    | true => some (es.toList.map He.keyOf)
    | false => none) = some (He.keysIn w.params ks) := h
  rw [D.low] at h1
  exact Option.some.inj h1
theorem tabK {fa : List He.Fa} {fn : List He.DefD} {ts : List He.Tab} {w : World} {K : PySem.W.Frag} (c : He.SaysT fa fn ts w K) (i : Nat) {t : He.Tab} (h : ts[i]? = some t) : TabOk K w (t.1 K) t.2 := by
  have e : ts.map (fun t => He.dicW K (t.1 K)) = ts.map fun t => some (He.keysIn w.params t.2) := congrArg (fun z : He.AlT => z.2) c
  have e2 : (ts.map fun t => He.dicW K (t.1 K))[i]? = (ts.map fun t => some (He.keysIn w.params t.2))[i]? := by rw [e]
  rw [List.getElem?_map, List.getElem?_map, h] at e2
  exact dicW_keys (Option.some.inj e2)
theorem find_none {P : PySem.Params} {z : Str} : ∀ {l : List DictEntry} {ks : List Str}, l.map He.keyOf = He.keysIn P ks → z ∉ ks → l.find? (·.key.isStr z) = none ∧ l.any (·.refKey) = false
  | [], _, _, _ => ⟨rfl, rfl⟩
  | e :: r, [], h, _ => by cases h
  | e :: r, k :: ks, h, hz => by
    have h1 : He.keyOf e :: r.map He.keyOf = some (k, PyData.keyHash P k) :: He.keysIn P ks := h
    injection h1 with h2 h3
    obtain ⟨q1, q2⟩ := find_none h3 fun m => hz (List.mem_cons_of_mem _ m)
    unfold He.keyOf at h2
    split at h2
    · rename_i x t q
      have h4 := Option.some.inj h2
      obtain ⟨h5, h6⟩ := Prod.mk.inj h4
      subst h5
      have n1 : e.key.isStr z = false := by
        rw [q]
        have : x ≠ z := fun e => hz (by rw [e]; exact List.mem_cons_self)
        simp [Value.isStr, this]
      have n2 : e.refKey = false := by
        unfold DictEntry.refKey
        rw [q]
      rw [List.find?_cons, n1, List.any_cons, n2]
      exact ⟨q1, q2⟩
    · cases h2
theorem TabOk.no {K : PySem.W.Frag} {w : World} {a : Addr} {ks : List Str} {z : Str} (h : TabOk K w a ks) (hz : z ∉ ks) : PySem.W.nsIn K a z = some none := by
  obtain ⟨es, n, D, e⟩ := h
  obtain ⟨q1, q2⟩ := find_none e hz
  unfold PySem.W.nsIn
  rw [D.at_]
  simp only [q1, q2]
  rfl
/-- what stands behind the top -/
structure Tx (w : World) (K : PySem.W.Frag) (mg : Str → Option Value) : Prop where
  g_PaperError : mg "PaperError" = some (.ref (He.ga K "PaperError"))
  g_NoGround : mg "NoGround" = some (.ref (He.ga K "NoGround"))
  g_NoRow : mg "NoRow" = some (.ref (He.ga K "NoRow"))
  g_Doubled : mg "Doubled" = some (.ref (He.ga K "Doubled"))
  g_NoText : mg "NoText" = some (.ref (He.ga K "NoText"))
  g_NoSign : mg "NoSign" = some (.ref (He.ga K "NoSign"))
  g_NoLine : mg "NoLine" = some (.ref (He.ga K "NoLine"))
  g_KEPT : mg "KEPT" = some (.ref (He.ga K "KEPT"))
  g_FORMS : mg "FORMS" = some (.ref (He.ga K "FORMS"))
  g_is_whole : mg "is_whole" = some (.ref (He.ga K "is_whole"))
  g_is_number : mg "is_number" = some (.ref (He.ga K "is_number"))
  g_is_name : mg "is_name" = some (.ref (He.ga K "is_name"))
  g_has_form : mg "has_form" = some (.ref (He.ga K "has_form"))
  g_is_term : mg "is_term" = some (.ref (He.ga K "is_term"))
  g_are_terms : mg "are_terms" = some (.ref (He.ga K "are_terms"))
  g_is_thing_row : mg "is_thing_row" = some (.ref (He.ga K "is_thing_row"))
  g_is_mean_row : mg "is_mean_row" = some (.ref (He.ga K "is_mean_row"))
  g_is_hold_row : mg "is_hold_row" = some (.ref (He.ga K "is_hold_row"))
  g_ROWS : mg "ROWS" = some (.ref (He.ga K "ROWS"))
  g_is_row : mg "is_row" = some (.ref (He.ga K "is_row"))
  g_need_rows : mg "need_rows" = some (.ref (He.ga K "need_rows"))
  g_Ground : mg "Ground" = some (.ref (He.ga K "Ground"))
  g_words_of : mg "words_of" = some (.ref (He.ga K "words_of"))
  g_word_at : mg "word_at" = some (.ref (He.ga K "word_at"))
  g_number_in : mg "number_in" = some (.ref (He.ga K "number_in"))
  g_height_in : mg "height_in" = some (.ref (He.ga K "height_in"))
  g_place_word : mg "place_word" = some (.ref (He.ga K "place_word"))
  g_kind_word : mg "kind_word" = some (.ref (He.ga K "kind_word"))
  g_name_word : mg "name_word" = some (.ref (He.ga K "name_word"))
  g_maker_word : mg "maker_word" = some (.ref (He.ga K "maker_word"))
  g_eater_word : mg "eater_word" = some (.ref (He.ga K "eater_word"))
  g_MARKED : mg "MARKED" = some (.ref (He.ga K "MARKED"))
  g_single_word : mg "single_word" = some (.ref (He.ga K "single_word"))
  g_binder_number : mg "binder_number" = some (.ref (He.ga K "binder_number"))
  g_TRIPLES : mg "TRIPLES" = some (.ref (He.ga K "TRIPLES"))
  g_need_word : mg "need_word" = some (.ref (He.ga K "need_word"))
  g_read_term : mg "read_term" = some (.ref (He.ga K "read_term"))
  g_read_row : mg "read_row" = some (.ref (He.ga K "read_row"))
  g_read_part : mg "read_part" = some (.ref (He.ga K "read_part"))
  g_read_words : mg "read_words" = some (.ref (He.ga K "read_words"))
  g_Rows : mg "Rows" = some (.ref (He.ga K "Rows"))
  g_read_ground : mg "read_ground" = some (.ref (He.ga K "read_ground"))
  g_law_cell : mg "_law_cell" = some (.ref (He.ga K "_law_cell"))
  g_law_box : mg "_law_box" = some (.ref (He.ga K "_law_box"))
  g_law_take : mg "_law_take" = some (.ref (He.ga K "_law_take"))
  g_law_words : mg "_law_words" = some (.ref (He.ga K "_law_words"))
  g_law_figures : mg "_law_figures" = some (.ref (He.ga K "_law_figures"))
  g_law_is_name : mg "_law_is_name" = some (.ref (He.ga K "_law_is_name"))
  g_law_lone : mg "_law_lone" = some (.ref (He.ga K "_law_lone"))
  g_law_begun : mg "_law_begun" = some (.ref (He.ga K "_law_begun"))
  g_law_row : mg "_law_row" = some (.ref (He.ga K "_law_row"))
  g_law_built : mg "_law_built" = some (.ref (He.ga K "_law_built"))
  g_law_met : mg "_law_met" = some (.ref (He.ga K "_law_met"))
  g_law_read : mg "_law_read" = some (.ref (He.ga K "_law_read"))
  g_law_leaf_word : mg "_law_leaf_word" = some (.ref (He.ga K "_law_leaf_word"))
  g_law_part_words : mg "_law_part_words" = some (.ref (He.ga K "_law_part_words"))
  g_law_term_words : mg "_law_term_words" = some (.ref (He.ga K "_law_term_words"))
  g_law_thing_words : mg "_law_thing_words" = some (.ref (He.ga K "_law_thing_words"))
  g_law_rows_words : mg "_law_rows_words" = some (.ref (He.ga K "_law_rows_words"))
  g_law_strange : mg "_law_strange" = some (.ref (He.ga K "_law_strange"))
  g_law_otherwise : mg "_law_otherwise" = some (.ref (He.ga K "_law_otherwise"))
  g_law_text : mg "_law_text" = some (.ref (He.ga K "_law_text"))
  g_law_thing_line : mg "_law_thing_line" = some (.ref (He.ga K "_law_thing_line"))
  g_law_line : mg "_law_line" = some (.ref (He.ga K "_law_line"))
  g_law_due : mg "_law_due" = some (.ref (He.ga K "_law_due"))
  g_law_caught : mg "_law_caught" = some (.ref (He.ga K "_law_caught"))
  g_law : mg "law" = some (.ref (He.ga K "law"))
  i_MOST_KIND : ∃ t, mg "MOST_KIND" = some (.int 5 t)
  i_MOST_BOUNDS : ∃ t, mg "MOST_BOUNDS" = some (.int 3 t)
  i_MOST_MAKERS : ∃ t, mg "MOST_MAKERS" = some (.int 5 t)
  i_MOST_ARGS : ∃ t, mg "MOST_ARGS" = some (.int 4 t)
  i_MOST_ROWS : ∃ t, mg "MOST_ROWS" = some (.int 24 t)
  i_MOST_FIGURES : ∃ t, mg "MOST_FIGURES" = some (.int 30 t)
  z_SMALL : ∃ t, mg "SMALL" = some (.str "abcdefghijklmnopqrstuvwxyz" t)
  z_HEIGHTS : ∃ t, mg "HEIGHTS" = some (.str "012345" t)
  z_FIGURES : ∃ t, mg "FIGURES" = some (.str "0123456789" t)
  n_KeyError : mg "KeyError" = none
  n_ValueError : mg "ValueError" = none
  n_all : mg "all" = none
  n_bool : mg "bool" = none
  n_dict : mg "dict" = none
  n_enumerate : mg "enumerate" = none
  n_int : mg "int" = none
  n_isinstance : mg "isinstance" = none
  n_len : mg "len" = none
  n_list : mg "list" = none
  n_max : mg "max" = none
  n_min : mg "min" = none
  n_range : mg "range" = none
  n_repr : mg "repr" = none
  n_str : mg "str" = none
  n_tuple : mg "tuple" = none
  n_zip : mg "zip" = none
  c_Ground : Cls K (He.ga K "Ground")
  k_Ground : Mk K (He.ga K "Ground") (He.ma K (He.ga K "Ground") "__init__")
  e_Ground_rows : Meth K (He.ga K "Ground") "rows" (He.ma K (He.ga K "Ground") "rows")
  o_Ground_kept_rows : NoAttr K (He.ga K "Ground") "kept_rows"
  o_Ground_kept_by : NoAttr K (He.ga K "Ground") "kept_by"
  c_Rows : Cls K (He.ga K "Rows")
  k_Rows : Mk K (He.ga K "Rows") (He.ma K (He.ga K "Rows") "__init__")
  e_Rows_thing : Meth K (He.ga K "Rows") "thing" (He.ma K (He.ga K "Rows") "thing")
  e_Rows_bound : Meth K (He.ga K "Rows") "bound" (He.ma K (He.ga K "Rows") "bound")
  e_Rows_maker : Meth K (He.ga K "Rows") "maker" (He.ma K (He.ga K "Rows") "maker")
  e_Rows_arg : Meth K (He.ga K "Rows") "arg" (He.ma K (He.ga K "Rows") "arg")
  e_Rows_mean : Meth K (He.ga K "Rows") "mean" (He.ma K (He.ga K "Rows") "mean")
  e_Rows_hold : Meth K (He.ga K "Rows") "hold" (He.ma K (He.ga K "Rows") "hold")
  e_Rows_taken : Meth K (He.ga K "Rows") "taken" (He.ma K (He.ga K "Rows") "taken")
  e_Rows_told : Meth K (He.ga K "Rows") "told" (He.ma K (He.ga K "Rows") "told")
  o_Rows_kept_rows : NoAttr K (He.ga K "Rows") "kept_rows"
  o_Rows_kept_open : NoAttr K (He.ga K "Rows") "kept_open"
  d_is_whole : ∃ fd, FunD K "is_whole" "is_whole" (defArgs s_is_whole) (defBody s_is_whole) (defScope s_is_whole) [] [] (He.ga K "is_whole") fd
  d_is_number : ∃ fd, FunD K "is_number" "is_number" (defArgs s_is_number) (defBody s_is_number) (defScope s_is_number) [] [] (He.ga K "is_number") fd
  d_is_name : ∃ fd, FunD K "is_name" "is_name" (defArgs s_is_name) (defBody s_is_name) (defScope s_is_name) [] [] (He.ga K "is_name") fd
  d_has_form : ∃ fd, FunD K "has_form" "has_form" (defArgs s_has_form) (defBody s_has_form) (defScope s_has_form) [] [] (He.ga K "has_form") fd
  d_is_term : ∃ fd, FunD K "is_term" "is_term" (defArgs s_is_term) (defBody s_is_term) (defScope s_is_term) [] [] (He.ga K "is_term") fd
  d_are_terms : ∃ fd, FunD K "are_terms" "are_terms" (defArgs s_are_terms) (defBody s_are_terms) (defScope s_are_terms) [] [] (He.ga K "are_terms") fd
  d_is_thing_row : ∃ fd, FunD K "is_thing_row" "is_thing_row" (defArgs s_is_thing_row) (defBody s_is_thing_row) (defScope s_is_thing_row) [] [] (He.ga K "is_thing_row") fd
  d_is_mean_row : ∃ fd, FunD K "is_mean_row" "is_mean_row" (defArgs s_is_mean_row) (defBody s_is_mean_row) (defScope s_is_mean_row) [] [] (He.ga K "is_mean_row") fd
  d_is_hold_row : ∃ fd, FunD K "is_hold_row" "is_hold_row" (defArgs s_is_hold_row) (defBody s_is_hold_row) (defScope s_is_hold_row) [] [] (He.ga K "is_hold_row") fd
  d_is_row : ∃ fd, FunD K "is_row" "is_row" (defArgs s_is_row) (defBody s_is_row) (defScope s_is_row) [] [] (He.ga K "is_row") fd
  d_need_rows : ∃ fd, FunD K "need_rows" "need_rows" (defArgs s_need_rows) (defBody s_need_rows) (defScope s_need_rows) [] [] (He.ga K "need_rows") fd
  d_words_of : ∃ fd, FunD K "words_of" "words_of" (defArgs s_words_of) (defBody s_words_of) (defScope s_words_of) [] [] (He.ga K "words_of") fd
  d_word_at : ∃ fd, FunD K "word_at" "word_at" (defArgs s_word_at) (defBody s_word_at) (defScope s_word_at) [] [] (He.ga K "word_at") fd
  d_number_in : ∃ fd, FunD K "number_in" "number_in" (defArgs s_number_in) (defBody s_number_in) (defScope s_number_in) [.int 3] [] (He.ga K "number_in") fd
  d_height_in : ∃ fd, FunD K "height_in" "height_in" (defArgs s_height_in) (defBody s_height_in) (defScope s_height_in) [] [] (He.ga K "height_in") fd
  d_place_word : ∃ fd, FunD K "place_word" "place_word" (defArgs s_place_word) (defBody s_place_word) (defScope s_place_word) [] [] (He.ga K "place_word") fd
  d_kind_word : ∃ fd, FunD K "kind_word" "kind_word" (defArgs s_kind_word) (defBody s_kind_word) (defScope s_kind_word) [] [] (He.ga K "kind_word") fd
  d_name_word : ∃ fd, FunD K "name_word" "name_word" (defArgs s_name_word) (defBody s_name_word) (defScope s_name_word) [] [] (He.ga K "name_word") fd
  d_maker_word : ∃ fd, FunD K "maker_word" "maker_word" (defArgs s_maker_word) (defBody s_maker_word) (defScope s_maker_word) [] [] (He.ga K "maker_word") fd
  d_eater_word : ∃ fd, FunD K "eater_word" "eater_word" (defArgs s_eater_word) (defBody s_eater_word) (defScope s_eater_word) [] [] (He.ga K "eater_word") fd
  d_single_word : ∃ fd, FunD K "single_word" "single_word" (defArgs s_single_word) (defBody s_single_word) (defScope s_single_word) [] [] (He.ga K "single_word") fd
  d_binder_number : ∃ fd, FunD K "binder_number" "binder_number" (defArgs s_binder_number) (defBody s_binder_number) (defScope s_binder_number) [] [] (He.ga K "binder_number") fd
  d_need_word : ∃ fd, FunD K "need_word" "need_word" (defArgs s_need_word) (defBody s_need_word) (defScope s_need_word) [] [] (He.ga K "need_word") fd
  d_read_term : ∃ fd, FunD K "read_term" "read_term" (defArgs s_read_term) (defBody s_read_term) (defScope s_read_term) [] [] (He.ga K "read_term") fd
  d_read_row : ∃ fd, FunD K "read_row" "read_row" (defArgs s_read_row) (defBody s_read_row) (defScope s_read_row) [] [] (He.ga K "read_row") fd
  d_read_part : ∃ fd, FunD K "read_part" "read_part" (defArgs s_read_part) (defBody s_read_part) (defScope s_read_part) [] [] (He.ga K "read_part") fd
  d_read_words : ∃ fd, FunD K "read_words" "read_words" (defArgs s_read_words) (defBody s_read_words) (defScope s_read_words) [] [] (He.ga K "read_words") fd
  d_read_ground : ∃ fd, FunD K "read_ground" "read_ground" (defArgs s_read_ground) (defBody s_read_ground) (defScope s_read_ground) [] [] (He.ga K "read_ground") fd
  d_law_cell : ∃ fd, FunD K "_law_cell" "_law_cell" (defArgs s_law_cell) (defBody s_law_cell) (defScope s_law_cell) [] [] (He.ga K "_law_cell") fd
  d_law_box : ∃ fd, FunD K "_law_box" "_law_box" (defArgs s_law_box) (defBody s_law_box) (defScope s_law_box) [] [] (He.ga K "_law_box") fd
  d_law_take : ∃ fd, FunD K "_law_take" "_law_take" (defArgs s_law_take) (defBody s_law_take) (defScope s_law_take) [] [] (He.ga K "_law_take") fd
  d_law_words : ∃ fd, FunD K "_law_words" "_law_words" (defArgs s_law_words) (defBody s_law_words) (defScope s_law_words) [] [] (He.ga K "_law_words") fd
  d_law_figures : ∃ fd, FunD K "_law_figures" "_law_figures" (defArgs s_law_figures) (defBody s_law_figures) (defScope s_law_figures) [] [] (He.ga K "_law_figures") fd
  d_law_is_name : ∃ fd, FunD K "_law_is_name" "_law_is_name" (defArgs s_law_is_name) (defBody s_law_is_name) (defScope s_law_is_name) [] [] (He.ga K "_law_is_name") fd
  d_law_lone : ∃ fd, FunD K "_law_lone" "_law_lone" (defArgs s_law_lone) (defBody s_law_lone) (defScope s_law_lone) [] [] (He.ga K "_law_lone") fd
  d_law_begun : ∃ fd, FunD K "_law_begun" "_law_begun" (defArgs s_law_begun) (defBody s_law_begun) (defScope s_law_begun) [] [] (He.ga K "_law_begun") fd
  d_law_row : ∃ fd, FunD K "_law_row" "_law_row" (defArgs s_law_row) (defBody s_law_row) (defScope s_law_row) [] [] (He.ga K "_law_row") fd
  d_law_built : ∃ fd, FunD K "_law_built" "_law_built" (defArgs s_law_built) (defBody s_law_built) (defScope s_law_built) [] [] (He.ga K "_law_built") fd
  d_law_met : ∃ fd, FunD K "_law_met" "_law_met" (defArgs s_law_met) (defBody s_law_met) (defScope s_law_met) [] [] (He.ga K "_law_met") fd
  d_law_read : ∃ fd, FunD K "_law_read" "_law_read" (defArgs s_law_read) (defBody s_law_read) (defScope s_law_read) [] [] (He.ga K "_law_read") fd
  d_law_leaf_word : ∃ fd, FunD K "_law_leaf_word" "_law_leaf_word" (defArgs s_law_leaf_word) (defBody s_law_leaf_word) (defScope s_law_leaf_word) [] [] (He.ga K "_law_leaf_word") fd
  d_law_part_words : ∃ fd, FunD K "_law_part_words" "_law_part_words" (defArgs s_law_part_words) (defBody s_law_part_words) (defScope s_law_part_words) [] [] (He.ga K "_law_part_words") fd
  d_law_term_words : ∃ fd, FunD K "_law_term_words" "_law_term_words" (defArgs s_law_term_words) (defBody s_law_term_words) (defScope s_law_term_words) [] [] (He.ga K "_law_term_words") fd
  d_law_thing_words : ∃ fd, FunD K "_law_thing_words" "_law_thing_words" (defArgs s_law_thing_words) (defBody s_law_thing_words) (defScope s_law_thing_words) [] [] (He.ga K "_law_thing_words") fd
  d_law_rows_words : ∃ fd, FunD K "_law_rows_words" "_law_rows_words" (defArgs s_law_rows_words) (defBody s_law_rows_words) (defScope s_law_rows_words) [] [] (He.ga K "_law_rows_words") fd
  d_law_strange : ∃ fd, FunD K "_law_strange" "_law_strange" (defArgs s_law_strange) (defBody s_law_strange) (defScope s_law_strange) [] [] (He.ga K "_law_strange") fd
  d_law_otherwise : ∃ fd, FunD K "_law_otherwise" "_law_otherwise" (defArgs s_law_otherwise) (defBody s_law_otherwise) (defScope s_law_otherwise) [] [] (He.ga K "_law_otherwise") fd
  d_law_text : ∃ fd, FunD K "_law_text" "_law_text" (defArgs s_law_text) (defBody s_law_text) (defScope s_law_text) [] [] (He.ga K "_law_text") fd
  d_law_thing_line : ∃ fd, FunD K "_law_thing_line" "_law_thing_line" (defArgs s_law_thing_line) (defBody s_law_thing_line) (defScope s_law_thing_line) [] [] (He.ga K "_law_thing_line") fd
  d_law_line : ∃ fd, FunD K "_law_line" "_law_line" (defArgs s_law_line) (defBody s_law_line) (defScope s_law_line) [] [] (He.ga K "_law_line") fd
  d_law_due : ∃ fd, FunD K "_law_due" "_law_due" (defArgs s_law_due) (defBody s_law_due) (defScope s_law_due) [] [] (He.ga K "_law_due") fd
  d_law_caught : ∃ fd, FunD K "_law_caught" "_law_caught" (defArgs s_law_caught) (defBody s_law_caught) (defScope s_law_caught) [] [] (He.ga K "_law_caught") fd
  d_law : ∃ fd, FunD K "law" "law" (defArgs s_law) (defBody s_law) (defScope s_law) [] [] (He.ga K "law") fd
  d_NoGround_init : ∃ fd, FunD K "__init__" "NoGround.__init__" (defArgs m_NoGround_init) (defBody m_NoGround_init) (defScope m_NoGround_init) [] [] (He.ma K (He.ga K "NoGround") "__init__") fd
  d_NoRow_init : ∃ fd, FunD K "__init__" "NoRow.__init__" (defArgs m_NoRow_init) (defBody m_NoRow_init) (defScope m_NoRow_init) [] [] (He.ma K (He.ga K "NoRow") "__init__") fd
  d_Doubled_init : ∃ fd, FunD K "__init__" "Doubled.__init__" (defArgs m_Doubled_init) (defBody m_Doubled_init) (defScope m_Doubled_init) [] [] (He.ma K (He.ga K "Doubled") "__init__") fd
  d_NoText_init : ∃ fd, FunD K "__init__" "NoText.__init__" (defArgs m_NoText_init) (defBody m_NoText_init) (defScope m_NoText_init) [] [] (He.ma K (He.ga K "NoText") "__init__") fd
  d_NoSign_init : ∃ fd, FunD K "__init__" "NoSign.__init__" (defArgs m_NoSign_init) (defBody m_NoSign_init) (defScope m_NoSign_init) [] [] (He.ma K (He.ga K "NoSign") "__init__") fd
  d_NoLine_init : ∃ fd, FunD K "__init__" "NoLine.__init__" (defArgs m_NoLine_init) (defBody m_NoLine_init) (defScope m_NoLine_init) [] [] (He.ma K (He.ga K "NoLine") "__init__") fd
  d_Ground_init : ∃ fd, FunD K "__init__" "Ground.__init__" (defArgs m_Ground_init) (defBody m_Ground_init) (defScope m_Ground_init) [.non] [] (He.ma K (He.ga K "Ground") "__init__") fd
  d_Ground_rows : ∃ fd, FunD K "rows" "Ground.rows" (defArgs m_Ground_rows) (defBody m_Ground_rows) (defScope m_Ground_rows) [] [] (He.ma K (He.ga K "Ground") "rows") fd
  d_Ground_eq : ∃ fd, FunD K "__eq__" "Ground.__eq__" (defArgs m_Ground_eq) (defBody m_Ground_eq) (defScope m_Ground_eq) [] [] (He.ma K (He.ga K "Ground") "__eq__") fd
  d_Rows_init : ∃ fd, FunD K "__init__" "Rows.__init__" (defArgs m_Rows_init) (defBody m_Rows_init) (defScope m_Rows_init) [] [] (He.ma K (He.ga K "Rows") "__init__") fd
  d_Rows_thing : ∃ fd, FunD K "thing" "Rows.thing" (defArgs m_Rows_thing) (defBody m_Rows_thing) (defScope m_Rows_thing) [] [] (He.ma K (He.ga K "Rows") "thing") fd
  d_Rows_bound : ∃ fd, FunD K "bound" "Rows.bound" (defArgs m_Rows_bound) (defBody m_Rows_bound) (defScope m_Rows_bound) [] [] (He.ma K (He.ga K "Rows") "bound") fd
  d_Rows_maker : ∃ fd, FunD K "maker" "Rows.maker" (defArgs m_Rows_maker) (defBody m_Rows_maker) (defScope m_Rows_maker) [] [] (He.ma K (He.ga K "Rows") "maker") fd
  d_Rows_arg : ∃ fd, FunD K "arg" "Rows.arg" (defArgs m_Rows_arg) (defBody m_Rows_arg) (defScope m_Rows_arg) [] [] (He.ma K (He.ga K "Rows") "arg") fd
  d_Rows_mean : ∃ fd, FunD K "mean" "Rows.mean" (defArgs m_Rows_mean) (defBody m_Rows_mean) (defScope m_Rows_mean) [] [] (He.ma K (He.ga K "Rows") "mean") fd
  d_Rows_hold : ∃ fd, FunD K "hold" "Rows.hold" (defArgs m_Rows_hold) (defBody m_Rows_hold) (defScope m_Rows_hold) [] [] (He.ma K (He.ga K "Rows") "hold") fd
  d_Rows_taken : ∃ fd, FunD K "taken" "Rows.taken" (defArgs m_Rows_taken) (defBody m_Rows_taken) (defScope m_Rows_taken) [] [] (He.ma K (He.ga K "Rows") "taken") fd
  d_Rows_told : ∃ fd, FunD K "told" "Rows.told" (defArgs m_Rows_told) (defBody m_Rows_told) (defScope m_Rows_told) [] [] (He.ma K (He.ga K "Rows") "told") fd
  t_FORMS : TabOk K w (He.ga K "FORMS") ["at", "kind", "all", "fun", "app", "name", "thing", "maker", "eater", "same", "self", "put"]
  t_ROWS : TabOk K w (He.ga K "ROWS") ["thing", "mean", "hold"]
  t_MARKED : TabOk K w (He.ga K "MARKED") ["*", "@"]
  t_TRIPLES : TabOk K w (He.ga K "TRIPLES") ["same", "self", "put"]
  ex : ex K = true
theorem tx_of {w : World} {K : PySem.W.Frag} {h h2 : Heap} {mg : Str → Option Value} (X : K.In h) (G : h.Ns mainGlobals mg) (c : He.SaysX fa fn ts [] ex w h2 K) : Tx w K mg :=
  ⟨He.glo_ok X G (c.t.d.fact 0 (f := .glo "PaperError") rfl),
   He.glo_ok X G (c.t.d.fact 1 (f := .glo "NoGround") rfl),
   He.glo_ok X G (c.t.d.fact 2 (f := .glo "NoRow") rfl),
   He.glo_ok X G (c.t.d.fact 3 (f := .glo "Doubled") rfl),
   He.glo_ok X G (c.t.d.fact 4 (f := .glo "NoText") rfl),
   He.glo_ok X G (c.t.d.fact 5 (f := .glo "NoSign") rfl),
   He.glo_ok X G (c.t.d.fact 6 (f := .glo "NoLine") rfl),
   He.glo_ok X G (c.t.d.fact 7 (f := .glo "KEPT") rfl),
   He.glo_ok X G (c.t.d.fact 8 (f := .glo "FORMS") rfl),
   He.glo_ok X G (c.t.d.fact 9 (f := .glo "is_whole") rfl),
   He.glo_ok X G (c.t.d.fact 10 (f := .glo "is_number") rfl),
   He.glo_ok X G (c.t.d.fact 11 (f := .glo "is_name") rfl),
   He.glo_ok X G (c.t.d.fact 12 (f := .glo "has_form") rfl),
   He.glo_ok X G (c.t.d.fact 13 (f := .glo "is_term") rfl),
   He.glo_ok X G (c.t.d.fact 14 (f := .glo "are_terms") rfl),
   He.glo_ok X G (c.t.d.fact 15 (f := .glo "is_thing_row") rfl),
   He.glo_ok X G (c.t.d.fact 16 (f := .glo "is_mean_row") rfl),
   He.glo_ok X G (c.t.d.fact 17 (f := .glo "is_hold_row") rfl),
   He.glo_ok X G (c.t.d.fact 18 (f := .glo "ROWS") rfl),
   He.glo_ok X G (c.t.d.fact 19 (f := .glo "is_row") rfl),
   He.glo_ok X G (c.t.d.fact 20 (f := .glo "need_rows") rfl),
   He.glo_ok X G (c.t.d.fact 21 (f := .glo "Ground") rfl),
   He.glo_ok X G (c.t.d.fact 22 (f := .glo "words_of") rfl),
   He.glo_ok X G (c.t.d.fact 23 (f := .glo "word_at") rfl),
   He.glo_ok X G (c.t.d.fact 24 (f := .glo "number_in") rfl),
   He.glo_ok X G (c.t.d.fact 25 (f := .glo "height_in") rfl),
   He.glo_ok X G (c.t.d.fact 26 (f := .glo "place_word") rfl),
   He.glo_ok X G (c.t.d.fact 27 (f := .glo "kind_word") rfl),
   He.glo_ok X G (c.t.d.fact 28 (f := .glo "name_word") rfl),
   He.glo_ok X G (c.t.d.fact 29 (f := .glo "maker_word") rfl),
   He.glo_ok X G (c.t.d.fact 30 (f := .glo "eater_word") rfl),
   He.glo_ok X G (c.t.d.fact 31 (f := .glo "MARKED") rfl),
   He.glo_ok X G (c.t.d.fact 32 (f := .glo "single_word") rfl),
   He.glo_ok X G (c.t.d.fact 33 (f := .glo "binder_number") rfl),
   He.glo_ok X G (c.t.d.fact 34 (f := .glo "TRIPLES") rfl),
   He.glo_ok X G (c.t.d.fact 35 (f := .glo "need_word") rfl),
   He.glo_ok X G (c.t.d.fact 36 (f := .glo "read_term") rfl),
   He.glo_ok X G (c.t.d.fact 37 (f := .glo "read_row") rfl),
   He.glo_ok X G (c.t.d.fact 38 (f := .glo "read_part") rfl),
   He.glo_ok X G (c.t.d.fact 39 (f := .glo "read_words") rfl),
   He.glo_ok X G (c.t.d.fact 40 (f := .glo "Rows") rfl),
   He.glo_ok X G (c.t.d.fact 41 (f := .glo "read_ground") rfl),
   He.glo_ok X G (c.t.d.fact 42 (f := .glo "_law_cell") rfl),
   He.glo_ok X G (c.t.d.fact 43 (f := .glo "_law_box") rfl),
   He.glo_ok X G (c.t.d.fact 44 (f := .glo "_law_take") rfl),
   He.glo_ok X G (c.t.d.fact 45 (f := .glo "_law_words") rfl),
   He.glo_ok X G (c.t.d.fact 46 (f := .glo "_law_figures") rfl),
   He.glo_ok X G (c.t.d.fact 47 (f := .glo "_law_is_name") rfl),
   He.glo_ok X G (c.t.d.fact 48 (f := .glo "_law_lone") rfl),
   He.glo_ok X G (c.t.d.fact 49 (f := .glo "_law_begun") rfl),
   He.glo_ok X G (c.t.d.fact 50 (f := .glo "_law_row") rfl),
   He.glo_ok X G (c.t.d.fact 51 (f := .glo "_law_built") rfl),
   He.glo_ok X G (c.t.d.fact 52 (f := .glo "_law_met") rfl),
   He.glo_ok X G (c.t.d.fact 53 (f := .glo "_law_read") rfl),
   He.glo_ok X G (c.t.d.fact 54 (f := .glo "_law_leaf_word") rfl),
   He.glo_ok X G (c.t.d.fact 55 (f := .glo "_law_part_words") rfl),
   He.glo_ok X G (c.t.d.fact 56 (f := .glo "_law_term_words") rfl),
   He.glo_ok X G (c.t.d.fact 57 (f := .glo "_law_thing_words") rfl),
   He.glo_ok X G (c.t.d.fact 58 (f := .glo "_law_rows_words") rfl),
   He.glo_ok X G (c.t.d.fact 59 (f := .glo "_law_strange") rfl),
   He.glo_ok X G (c.t.d.fact 60 (f := .glo "_law_otherwise") rfl),
   He.glo_ok X G (c.t.d.fact 61 (f := .glo "_law_text") rfl),
   He.glo_ok X G (c.t.d.fact 62 (f := .glo "_law_thing_line") rfl),
   He.glo_ok X G (c.t.d.fact 63 (f := .glo "_law_line") rfl),
   He.glo_ok X G (c.t.d.fact 64 (f := .glo "_law_due") rfl),
   He.glo_ok X G (c.t.d.fact 65 (f := .glo "_law_caught") rfl),
   He.glo_ok X G (c.t.d.fact 66 (f := .glo "law") rfl),
   He.int_ok X G (c.t.d.fact 67 (f := .int "MOST_KIND" 5) rfl),
   He.int_ok X G (c.t.d.fact 68 (f := .int "MOST_BOUNDS" 3) rfl),
   He.int_ok X G (c.t.d.fact 69 (f := .int "MOST_MAKERS" 5) rfl),
   He.int_ok X G (c.t.d.fact 70 (f := .int "MOST_ARGS" 4) rfl),
   He.int_ok X G (c.t.d.fact 71 (f := .int "MOST_ROWS" 24) rfl),
   He.int_ok X G (c.t.d.fact 72 (f := .int "MOST_FIGURES" 30) rfl),
   He.str_ok X G (c.t.d.fact 73 (f := .str "SMALL" "abcdefghijklmnopqrstuvwxyz") rfl),
   He.str_ok X G (c.t.d.fact 74 (f := .str "HEIGHTS" "012345") rfl),
   He.str_ok X G (c.t.d.fact 75 (f := .str "FIGURES" "0123456789") rfl),
   He.free_ok X G (c.t.d.fact 76 (f := .free "KeyError") rfl),
   He.free_ok X G (c.t.d.fact 77 (f := .free "ValueError") rfl),
   He.free_ok X G (c.t.d.fact 78 (f := .free "all") rfl),
   He.free_ok X G (c.t.d.fact 79 (f := .free "bool") rfl),
   He.free_ok X G (c.t.d.fact 80 (f := .free "dict") rfl),
   He.free_ok X G (c.t.d.fact 81 (f := .free "enumerate") rfl),
   He.free_ok X G (c.t.d.fact 82 (f := .free "int") rfl),
   He.free_ok X G (c.t.d.fact 83 (f := .free "isinstance") rfl),
   He.free_ok X G (c.t.d.fact 84 (f := .free "len") rfl),
   He.free_ok X G (c.t.d.fact 85 (f := .free "list") rfl),
   He.free_ok X G (c.t.d.fact 86 (f := .free "max") rfl),
   He.free_ok X G (c.t.d.fact 87 (f := .free "min") rfl),
   He.free_ok X G (c.t.d.fact 88 (f := .free "range") rfl),
   He.free_ok X G (c.t.d.fact 89 (f := .free "repr") rfl),
   He.free_ok X G (c.t.d.fact 90 (f := .free "str") rfl),
   He.free_ok X G (c.t.d.fact 91 (f := .free "tuple") rfl),
   He.free_ok X G (c.t.d.fact 92 (f := .free "zip") rfl),
   He.cls_ok (c.t.d.fact 93 (f := .cls "Ground") rfl),
   He.mkr_ok (c.t.d.fact 94 (f := .mkr "Ground") rfl),
   He.meth_ok (c.t.d.fact 95 (f := .meth "Ground" "rows") rfl),
   He.noat_ok (c.t.d.fact 96 (f := .noat "Ground" "kept_rows") rfl),
   He.noat_ok (c.t.d.fact 97 (f := .noat "Ground" "kept_by") rfl),
   He.cls_ok (c.t.d.fact 98 (f := .cls "Rows") rfl),
   He.mkr_ok (c.t.d.fact 99 (f := .mkr "Rows") rfl),
   He.meth_ok (c.t.d.fact 100 (f := .meth "Rows" "thing") rfl),
   He.meth_ok (c.t.d.fact 101 (f := .meth "Rows" "bound") rfl),
   He.meth_ok (c.t.d.fact 102 (f := .meth "Rows" "maker") rfl),
   He.meth_ok (c.t.d.fact 103 (f := .meth "Rows" "arg") rfl),
   He.meth_ok (c.t.d.fact 104 (f := .meth "Rows" "mean") rfl),
   He.meth_ok (c.t.d.fact 105 (f := .meth "Rows" "hold") rfl),
   He.meth_ok (c.t.d.fact 106 (f := .meth "Rows" "taken") rfl),
   He.meth_ok (c.t.d.fact 107 (f := .meth "Rows" "told") rfl),
   He.noat_ok (c.t.d.fact 108 (f := .noat "Rows" "kept_rows") rfl),
   He.noat_ok (c.t.d.fact 109 (f := .noat "Rows" "kept_open") rfl),
   c.t.d.def_ 0 rfl,
   c.t.d.def_ 1 rfl,
   c.t.d.def_ 2 rfl,
   c.t.d.def_ 3 rfl,
   c.t.d.def_ 4 rfl,
   c.t.d.def_ 5 rfl,
   c.t.d.def_ 6 rfl,
   c.t.d.def_ 7 rfl,
   c.t.d.def_ 8 rfl,
   c.t.d.def_ 9 rfl,
   c.t.d.def_ 10 rfl,
   c.t.d.def_ 11 rfl,
   c.t.d.def_ 12 rfl,
   c.t.d.def_ 13 rfl,
   c.t.d.def_ 14 rfl,
   c.t.d.def_ 15 rfl,
   c.t.d.def_ 16 rfl,
   c.t.d.def_ 17 rfl,
   c.t.d.def_ 18 rfl,
   c.t.d.def_ 19 rfl,
   c.t.d.def_ 20 rfl,
   c.t.d.def_ 21 rfl,
   c.t.d.def_ 22 rfl,
   c.t.d.def_ 23 rfl,
   c.t.d.def_ 24 rfl,
   c.t.d.def_ 25 rfl,
   c.t.d.def_ 26 rfl,
   c.t.d.def_ 27 rfl,
   c.t.d.def_ 28 rfl,
   c.t.d.def_ 29 rfl,
   c.t.d.def_ 30 rfl,
   c.t.d.def_ 31 rfl,
   c.t.d.def_ 32 rfl,
   c.t.d.def_ 33 rfl,
   c.t.d.def_ 34 rfl,
   c.t.d.def_ 35 rfl,
   c.t.d.def_ 36 rfl,
   c.t.d.def_ 37 rfl,
   c.t.d.def_ 38 rfl,
   c.t.d.def_ 39 rfl,
   c.t.d.def_ 40 rfl,
   c.t.d.def_ 41 rfl,
   c.t.d.def_ 42 rfl,
   c.t.d.def_ 43 rfl,
   c.t.d.def_ 44 rfl,
   c.t.d.def_ 45 rfl,
   c.t.d.def_ 46 rfl,
   c.t.d.def_ 47 rfl,
   c.t.d.def_ 48 rfl,
   c.t.d.def_ 49 rfl,
   c.t.d.def_ 50 rfl,
   c.t.d.def_ 51 rfl,
   c.t.d.def_ 52 rfl,
   c.t.d.def_ 53 rfl,
   c.t.d.def_ 54 rfl,
   c.t.d.def_ 55 rfl,
   c.t.d.def_ 56 rfl,
   c.t.d.def_ 57 rfl,
   c.t.d.def_ 58 rfl,
   c.t.d.def_ 59 rfl,
   c.t.d.def_ 60 rfl,
   c.t.d.def_ 61 rfl,
   c.t.d.def_ 62 rfl,
   c.t.d.def_ 63 rfl,
   c.t.d.def_ 64 rfl,
   c.t.d.def_ 65 rfl,
   c.t.d.def_ 66 rfl,
   c.t.d.def_ 67 rfl,
   c.t.d.def_ 68 rfl,
   c.t.d.def_ 69 rfl,
   c.t.d.def_ 70 rfl,
   tabK c.t 0 rfl,
   tabK c.t 1 rfl,
   tabK c.t 2 rfl,
   tabK c.t 3 rfl,
   c.more⟩
end K83
namespace K83
open PySem
/-! ### words -/
abbrev Wd := List Nat
def wAll : Wd := [97, 108, 108]
def wFun : Wd := [102, 117, 110]
def wSame : Wd := [115, 97, 109, 101]
def wSelf : Wd := [115, 101, 108, 102]
def wPut : Wd := [112, 117, 116]
def wArr : Wd := [45, 62]
def wCol : Wd := [58]
def wDot : Wd := [46]
def wOpn : Wd := [40]
def wCls : Wd := [41]
def wApp : Wd := [97, 112, 112]
def wThing : Wd := [116, 104, 105, 110, 103]
def wBound : Wd := [98, 111, 117, 110, 100]
def wMaker : Wd := [109, 97, 107, 101, 114]
def wArg : Wd := [97, 114, 103]
def wMean : Wd := [109, 101, 97, 110]
def wHold : Wd := [104, 111, 108, 100]
def wEq : Wd := [61]
def kept : List Wd := [wAll, wFun, wSame, wSelf, wPut]
def isLow (c : Nat) : Bool := decide (97 ≤ c) && decide (c ≤ 122)
def isDig (c : Nat) : Bool := decide (48 ≤ c) && decide (c ≤ 57)
def isName (w : Wd) : Bool := decide (1 ≤ w.length) && decide (w.length ≤ 8) && !(kept.contains w) && w.all isLow
/-- the number that is written plainly in at most so many figures -/
def figs (most : Nat) (w : Wd) : Option Nat :=
  if (decide (1 ≤ w.length) && decide (w.length ≤ most) && w.all isDig) = true then
    if w.head? = some 48 ∧ w ≠ [48] then none else some (NumText.digitsVal w)
  else none
/-- a height -/
def hgt : Wd → Option Nat
  | [c] => if 48 ≤ c ∧ c ≤ 53 then some (c - 48) else none
  | _ => none
def bnd (w : Wd) : Option Nat := if w.head? = some 120 then figs 3 (w.drop 1) else none
inductive T where
  | thing (n : Wd) | at (k : Nat) | kind (h : Nat) | name (n : Wd) | maker (n : Wd) (k : Nat) | eater (n : Wd) (h : Nat)
  | n2 (w : Wd) (x y : T) | n3 (w : Wd) (x y z : T)
abbrev Ar := List (Option Nat)
/-- the number of the last place at which n stands -/
def placeOf (w : Wd) (ar : Ar) : Option Nat := match bnd w with
  | none => none
  | some n => if some n ∈ ar then some (ar.reverse.idxOf (some n)) else none
def behind (c : Nat) (w : Wd) : Wd := (w.dropWhile (· != c)).drop 1
def ahead (c : Nat) (w : Wd) : Wd := w.takeWhile (· != c)
def makerOf (w : Wd) : Option T := if isName (ahead 35 w) = true then (figs 30 (behind 35 w)).map (T.maker (ahead 35 w)) else none
def eaterOf (w : Wd) : Option T := if isName (ahead 33 w) = true then (hgt (behind 33 w)).map (T.eater (ahead 33 w)) else none
/-- the term of a single word, as the program goes -/
def lone (w : Wd) (ar : Ar) : Option T :=
  if isName w = true then some (.thing w)
  else if w.head? = some 42 then (hgt (w.drop 1)).map T.kind
  else if w.head? = some 64 then (if isName (w.drop 1) = true then some (.name (w.drop 1)) else none)
  else if 35 ∈ w then makerOf w
  else if 33 ∈ w then eaterOf w
  else (placeOf w ar).map T.at
/-! ### words, once more -/
theorem isName_len {w : Wd} (h : isName w = true) : 1 ≤ w.length ∧ w.length ≤ 8 := by
  simp [isName] at h
  exact ⟨by have := h.1.1.1; cases w <;> simp_all, h.1.1.2⟩
theorem isName_low {w : Wd} (h : isName w = true) : ∀ c ∈ w, 97 ≤ c ∧ c ≤ 122 := by
  intro c hc
  simp [isName] at h
  have := h.2 c hc
  simp [isLow] at this
  exact this
theorem isName_no {w : Wd} {c : Nat} (h : isName w = true) (hc : c < 97) : c ∉ w := fun hm => by
  have := isName_low h c hm
  omega
theorem figs_some {m : Nat} {w : Wd} {n : Nat} (h : figs m w = some n) : 1 ≤ w.length ∧ w.length ≤ m ∧ (∀ c ∈ w, 48 ≤ c ∧ c ≤ 57) ∧ n = NumText.digitsVal w ∧ ¬ (w.head? = some 48 ∧ w ≠ [48]) := by
  unfold figs at h
  split at h
  · rename_i h1
    simp [isDig] at h1
    split at h
    · cases h
    · rename_i h2
      cases h
      refine ⟨by cases w <;> simp_all, h1.1.2, h1.2, rfl, h2⟩
  · cases h
theorem hgt_le {w : Wd} {n : Nat} (h : hgt w = some n) : n ≤ 5 := by
  unfold hgt at h
  split at h
  · split at h
    · cases h; omega
    · cases h
  · cases h
/-! ### figures of three -/
theorem val1 (a : Nat) : NumText.digitsVal [a] = a - 48 := by simp [NumText.digitsVal]
theorem val2 (a b : Nat) : NumText.digitsVal [a, b] = (a - 48) * 10 + (b - 48) := by simp [NumText.digitsVal]
theorem val3 (a b c : Nat) : NumText.digitsVal [a, b, c] = ((a - 48) * 10 + (b - 48)) * 10 + (c - 48) := by simp [NumText.digitsVal]
theorem num1 {a : Nat} (h : 48 ≤ a ∧ a ≤ 57) : TL.numL (a - 48) = [a] := by
  rw [TL.numL_lt (by omega)]
  simp; omega
theorem num_figs {w : Wd} {n : Nat} (h : figs 3 w = some n) : TL.numL n = w ∧ n < 1000 := by
  obtain ⟨h1, h2, h3, rfl, h4⟩ := figs_some h
  match w, h1, h2 with
  | [a], _, _ =>
    have ha := h3 a (by simp)
    rw [val1]
    exact ⟨num1 ha, by omega⟩
  | [a, b], _, _ =>
    have ha := h3 a (by simp)
    have hb := h3 b (by simp)
    have h0 : a ≠ 48 := fun e => h4 ⟨by simp [e], by simp⟩
    rw [val2]
    refine ⟨?_, by omega⟩
    rw [TL.numL_step (by omega), show ((a - 48) * 10 + (b - 48)) / 10 = a - 48 by omega, num1 ha]
    simp; omega
  | [a, b, c], _, _ =>
    have ha := h3 a (by simp)
    have hb := h3 b (by simp)
    have hc := h3 c (by simp)
    have h0 : a ≠ 48 := fun e => h4 ⟨by simp [e], by simp⟩
    rw [val3]
    refine ⟨?_, by omega⟩
    rw [TL.numL_step (by omega), show (((a - 48) * 10 + (b - 48)) * 10 + (c - 48)) / 10 = (a - 48) * 10 + (b - 48) by omega, TL.numL_step (by omega), show ((a - 48) * 10 + (b - 48)) / 10 = a - 48 by omega, num1 ha]
    simp; omega
theorem num_lt {n : Nat} (h : n < 1000) : (TL.numL n).length ≤ 3 := TL.numL_len (k := 3) (by decide) h
theorem num_head {n : Nat} (h : n < 1000) : ¬ ((TL.numL n).head? = some 48 ∧ TL.numL n ≠ [48]) := by
  intro ⟨h1, h2⟩
  by_cases a : n < 10
  · rw [TL.numL_lt a] at h1 h2
    simp at h1 h2
    omega
  · rw [TL.numL_step (by omega)] at h1 h2
    by_cases b : n < 100
    · rw [TL.numL_lt (by omega)] at h1
      simp at h1
      omega
    · rw [TL.numL_step (by omega), TL.numL_lt (by omega)] at h1
      simp at h1
      omega
theorem figs_num {n : Nat} (h : n < 1000) : figs 3 (TL.numL n) = some n := by
  unfold figs
  have h1 : (decide (1 ≤ (TL.numL n).length) && decide ((TL.numL n).length ≤ 3) && (TL.numL n).all isDig) = true := by
    have a := TL.numL_ne n
    have b := num_lt h
    have c := TL.numL_digits n
    simp only [Bool.and_eq_true, decide_eq_true_eq, List.all_eq_true]
    refine ⟨⟨?_, b⟩, fun x hx => ?_⟩
    · cases e : TL.numL n with
      | nil => exact absurd e a
      | cons x y => simp
    · have := c x hx
      simp [isDig]
      exact this
  rw [if_pos h1, if_neg (num_head h), TL.numL_val]
/-! ### the law's way to the term of a single word -/
def noneW : Wd := [78, 111, 110, 101]
def arW : Option Nat → Wd
  | some n => TL.numL n
  | none => noneW
def ArOk (ar : Ar) : Prop := ∀ n, some n ∈ ar → n < 1000
/-- at k (from the last) stands what the word names -/
def hitA (w : Wd) (ar : Ar) (k : Nat) : Prop := ∃ o, ar[ar.length - 1 - k]? = some o ∧ k < ar.length ∧ w = 120 :: arW o
theorem hit_num {w : Wd} {ar : Ar} {k : Nat} (hN : 78 ∉ w) (h : hitA w ar k) : ∃ n, ar[ar.length - 1 - k]? = some (some n) ∧ k < ar.length ∧ w = 120 :: TL.numL n := by
  obtain ⟨o, h1, h2, h3⟩ := h
  cases o with
  | none => exact absurd (by rw [h3]; simp [arW, noneW]) hN
  | some n => exact ⟨n, h1, h2, h3⟩
theorem bnd_num {n : Nat} (h : n < 1000) : bnd (120 :: TL.numL n) = some n := by
  have e : (120 :: TL.numL n).head? = some 120 := rfl
  unfold bnd
  rw [if_pos e]
  exact figs_num h
theorem bnd_w {w : Wd} {n : Nat} (h : bnd w = some n) : w = 120 :: TL.numL n ∧ n < 1000 := by
  unfold bnd at h
  split at h
  · rename_i e
    obtain ⟨h1, h2⟩ := num_figs h
    refine ⟨?_, h2⟩
    rw [h1]
    cases w with
    | nil => cases e
    | cons c r => simp at e; rw [e]; rfl
  · cases h
theorem rev_get {ar : Ar} {k : Nat} (h : k < ar.length) : ar.reverse[k]? = ar[ar.length - 1 - k]? := by
  rw [List.getElem?_reverse h]
theorem idx_first {l : Ar} {x : Option Nat} {k : Nat} (h : l[k]? = some x) (hn : ∀ j < k, l[j]? ≠ some x) : l.idxOf x = k := by
  induction l generalizing k with
  | nil => simp at h
  | cons a r ih =>
    cases k with
    | zero =>
      simp at h
      subst h
      simp
    | succ k =>
      have h0 := hn 0 (by omega)
      simp at h0
      have := ih (k := k) (by simpa using h) (fun j hj => by have := hn (j + 1) (by omega); simpa using this)
      have e : (a == x) = false := by
        rw [Bool.eq_false_iff]
        exact fun q => h0 (eq_of_beq q)
      rw [List.idxOf_cons, this, e]
      rfl
theorem place_hit {w : Wd} {ar : Ar} {k : Nat} (ha : ArOk ar) (hN : 78 ∉ w) (h : hitA w ar k) (hn : ∀ j < k, ¬ hitA w ar j) : placeOf w ar = some k := by
  obtain ⟨n, h1, h2, h3⟩ := hit_num hN h
  have hm : some n ∈ ar := List.mem_of_getElem? h1
  have hl := ha n hm
  unfold placeOf
  rw [h3, bnd_num hl]
  simp only
  rw [if_pos hm, idx_first (k := k)]
  · rw [rev_get h2]; exact h1
  · intro j hj e
    rw [rev_get (by omega)] at e
    exact hn j hj ⟨some n, e, by omega, h3⟩
theorem place_no {w : Wd} {ar : Ar} (h : ∀ j < ar.length, ¬ hitA w ar j) : placeOf w ar = none := by
  unfold placeOf
  cases e : bnd w with
  | none => rfl
  | some n =>
    obtain ⟨h1, _⟩ := bnd_w e
    simp only
    rw [if_neg]
    intro hm
    obtain ⟨i, hi, e2⟩ := List.mem_iff_getElem.mp hm
    refine h (ar.length - 1 - i) (by omega) ⟨some n, ?_, by omega, h1⟩
    rw [show ar.length - 1 - (ar.length - 1 - i) = i by omega, List.getElem?_eq_getElem hi, e2]
theorem place_lone {w : Wd} {ar : Ar} {k : Nat} (h : placeOf w ar = some k) (hn : isName w = false) : lone w ar = some (.at k) := by
  unfold placeOf at h
  cases e : bnd w with
  | none => rw [e] at h; cases h
  | some n =>
    have h' := h
    obtain ⟨h1, _⟩ := bnd_w e
    have hd := TL.numL_digits n
    have no : ∀ c, c ≠ 120 → (c < 48 ∨ 57 < c) → c ∉ w := fun c n1 n2 hm => by
      rw [h1] at hm
      rcases List.mem_cons.mp hm with q | q
      · exact n1 q
      · have := hd c q
        omega
    unfold lone
    rw [hn, if_neg (by simp), if_neg (by rw [h1]; simp), if_neg (by rw [h1]; simp), if_neg (no 35 (by decide) (by decide)), if_neg (no 33 (by decide) (by decide))]
    unfold placeOf
    rw [e]
    rw [e] at h'
    simp only at h' ⊢
    rw [h']
    rfl
/-- at k stands a mark with a name ahead and figures behind, or a mark with a name ahead and a height behind -/
def hitM (w : Wd) (k : Nat) : Option T :=
  if w[k]? = some 35 ∧ isName (w.take k) = true ∧ (figs 30 (w.drop (k + 1))).isSome = true then (figs 30 (w.drop (k + 1))).map (T.maker (w.take k))
  else if w[k]? = some 33 ∧ isName (w.take k) = true ∧ (hgt (w.drop (k + 1))).isSome = true then (hgt (w.drop (k + 1))).map (T.eater (w.take k))
  else none
theorem take_ahead {c : Nat} : ∀ {w : Wd} {k : Nat}, w[k]? = some c → c ∉ w.take k → ahead c w = w.take k ∧ behind c w = w.drop (k + 1)
  | [], k, h, _ => by simp at h
  | d :: r, 0, h, _ => by
    simp at h
    subst h
    simp [ahead, behind]
  | d :: r, k + 1, h, hn => by
    have h1 : r[k]? = some c := by simpa using h
    rw [List.take_succ_cons] at hn
    have n1 : d ≠ c := fun e => hn (by rw [e]; exact List.mem_cons_self)
    have n2 : c ∉ r.take k := fun e => hn (List.mem_cons_of_mem _ e)
    obtain ⟨h2, h3⟩ := take_ahead h1 n2
    have e1 : (d != c) = true := by simp [n1]
    constructor
    · rw [List.take_succ_cons, ← h2]
      simp [ahead, e1]
    · rw [List.drop_succ_cons, ← h3]
      simp [behind, e1]
theorem first_at {c : Nat} : ∀ {w : Wd}, c ∈ w → ∃ k, w[k]? = some c ∧ c ∉ w.take k
  | [], h => by cases h
  | d :: r, h => by
    by_cases e : d = c
    · exact ⟨0, by simp [e], by simp⟩
    · have h' : c ∈ r := by
        rcases List.mem_cons.mp h with q | q
        · exact absurd q.symm e
        · exact q
      obtain ⟨k, h1, h2⟩ := first_at h'
      refine ⟨k + 1, by simpa using h1, ?_⟩
      rw [List.take_succ_cons]
      intro q
      rcases List.mem_cons.mp q with q | q
      · exact e q.symm
      · exact h2 q
/-- what is left of the rule when no name and no place is met, and no * or @ ahead -/
def tailOf (w : Wd) : Option T := if 35 ∈ w then makerOf w else if 33 ∈ w then eaterOf w else none
theorem hit_tail {w : Wd} {k : Nat} {t : T} (h : hitM w k = some t) : tailOf w = some t := by
  unfold hitM at h
  split at h
  · rename_i q
    obtain ⟨q1, q2, q3⟩ := q
    obtain ⟨h1, h2⟩ := take_ahead q1 (isName_no q2 (by decide))
    unfold tailOf makerOf
    rw [if_pos (List.mem_of_getElem? q1), h1, h2, if_pos q2]
    exact h
  · split at h
    · rename_i q
      obtain ⟨q1, q2, q3⟩ := q
      obtain ⟨h1, h2⟩ := take_ahead q1 (isName_no q2 (by decide))
      have hw : w = w.take k ++ 33 :: w.drop (k + 1) := by
        have hk : k < w.length := (List.getElem?_eq_some_iff.mp q1).1
        have e := List.take_append_drop k w
        rw [List.drop_eq_getElem_cons hk] at e
        have e2 : w[k] = 33 := (List.getElem?_eq_some_iff.mp q1).2
        rw [e2] at e
        exact e.symm
      have no : 35 ∉ w := fun hm => by
        rw [hw] at hm
        rcases List.mem_append.mp hm with hm | hm
        · exact isName_no q2 (by decide) hm
        · rcases List.mem_cons.mp hm with hm | hm
          · cases hm
          · generalize w.drop (k + 1) = u at hm q3
            unfold hgt at q3
            split at q3
            · split at q3
              · simp at hm; omega
              · cases q3
            · cases q3
      unfold tailOf eaterOf
      rw [if_neg no, if_pos (List.mem_of_getElem? q1), h1, h2, if_pos q2]
      exact h
    · cases h
theorem no_tail {w : Wd} (h : ∀ k, k < w.length → hitM w k = none) : tailOf w = none := by
  unfold tailOf
  split
  · rename_i hm
    obtain ⟨k, h1, h2⟩ := first_at hm
    have hk : k < w.length := (List.getElem?_eq_some_iff.mp h1).1
    have := h k hk
    obtain ⟨e1, e2⟩ := take_ahead h1 h2
    unfold makerOf
    rw [e1, e2]
    by_cases hn : isName (w.take k) = true
    · rw [if_pos hn]
      cases hf : figs 30 (w.drop (k + 1)) with
      | none => rfl
      | some n =>
        unfold hitM at this
        rw [if_pos ⟨h1, hn, by rw [hf]; rfl⟩, hf] at this
        cases this
    · rw [if_neg hn]
  · split
    · rename_i no hm
      obtain ⟨k, h1, h2⟩ := first_at hm
      have hk : k < w.length := (List.getElem?_eq_some_iff.mp h1).1
      have := h k hk
      obtain ⟨e1, e2⟩ := take_ahead h1 h2
      unfold eaterOf
      rw [e1, e2]
      by_cases hn : isName (w.take k) = true
      · rw [if_pos hn]
        cases hf : hgt (w.drop (k + 1)) with
        | none => rfl
        | some n =>
          unfold hitM at this
          rw [if_neg (fun q => by rw [h1] at q; exact absurd q.1 (by simp)), if_pos ⟨h1, hn, by rw [hf]; rfl⟩, hf] at this
          cases this
      · rw [if_neg hn]
    · rfl
/-- the law's order -/
theorem lone_law {w : Wd} {ar : Ar} (hn : isName w = false) (hp : placeOf w ar = none) : lone w ar =
    if w.head? = some 42 then (hgt (w.drop 1)).map T.kind else if w.head? = some 64 then (if isName (w.drop 1) = true then some (.name (w.drop 1)) else none) else tailOf w := by
  unfold lone tailOf
  rw [hn, if_neg (by simp), hp]
  rfl
theorem lone_nil (ar : Ar) : lone [] ar = none := by
  simp [lone, isName, placeOf, bnd]
end K83
namespace K83
open PySem
/-! ### the reader -/
inductive Md where
  | term | row | part | more (f : T)
def Md.rank : Md → Nat
  | .part => 0
  | .more _ => 1
  | .row => 2
  | .term => 3
def hd : List Wd → Wd
  | [] => []
  | w :: _ => w
theorem hd_drop (ws : List Wd) (k : Nat) : hd (ws.drop k) = (ws[k]?).getD [] := by
  induction ws generalizing k with
  | nil => simp [hd]
  | cons w r ih =>
    cases k with
    | zero => simp [hd]
    | succ k => simpa using ih k
abbrev RR := Option (T × List Wd)
def rd : Md → Ar → List Wd → RR
  | .term, ar, ws =>
    if hd ws = wAll ∨ hd ws = wFun then
      match bnd (hd (ws.drop 1)) with
      | none => none
      | some k =>
        if hd (ws.drop 2) = wCol then
          if h1 : (ws.drop 3).length < ws.length then
            match rd .term ar (ws.drop 3) with
            | none => none
            | some (s, r) =>
              if hd r = wDot then
                if h2 : (r.drop 1).length < ws.length then
                  match rd .term (ar ++ [some k]) (r.drop 1) with
                  | none => none
                  | some (b, r2) => some (.n2 (hd ws) s b, r2)
                else none
              else none
          else none
        else none
    else
      match rd .row ar ws with
      | none => none
      | some (l, r) =>
        if hd r = wArr then
          if h2 : (r.drop 1).length < ws.length then
            match rd .term (ar ++ [none]) (r.drop 1) with
            | none => none
            | some (b, r2) => some (.n2 wAll l b, r2)
          else none
        else some (l, r)
  | .row, ar, ws =>
    if hd ws = wSame ∨ hd ws = wPut then
      if h1 : (ws.drop 1).length < ws.length then
        match rd .part ar (ws.drop 1) with
        | none => none
        | some (x, r) =>
          if h2 : r.length < ws.length then
            match rd .part ar r with
            | none => none
            | some (y, r2) =>
              if h3 : r2.length < ws.length then
                match rd .part ar r2 with
                | none => none
                | some (z, r3) => some (.n3 (hd ws) x y z, r3)
              else none
          else none
      else none
    else if hd ws = wSelf then
      if h1 : (ws.drop 1).length < ws.length then
        match rd .part ar (ws.drop 1) with
        | none => none
        | some (x, r) =>
          if h2 : r.length < ws.length then
            match rd .part ar r with
            | none => none
            | some (y, r2) => some (.n2 wSelf x y, r2)
          else none
      else none
    else
      match rd .part ar ws with
      | none => none
      | some (x, r) => if h1 : r.length < ws.length then rd (.more x) ar r else none
  | .more f, ar, ws =>
    if hd ws = wOpn ∨ (lone (hd ws) ar).isSome = true then
      match rd .part ar ws with
      | none => none
      | some (p, r) => if h1 : r.length < ws.length then rd (.more (.n2 wApp f p)) ar r else none
    else some (f, ws)
  | .part, ar, ws =>
    if hd ws = wOpn then
      if h1 : (ws.drop 1).length < ws.length then
        match rd .term ar (ws.drop 1) with
        | none => none
        | some (t, r) => if hd r = wCls then some (t, r.drop 1) else none
      else none
    else match lone (hd ws) ar with
      | none => none
      | some t => some (t, ws.drop 1)
termination_by m _ ws => (ws.length, m.rank)
decreasing_by
  all_goals simp_wf
  all_goals first
    | exact Prod.Lex.left _ _ (by assumption)
    | exact Prod.Lex.left _ _ (by simpa using h1)
    | exact Prod.Lex.left _ _ (by simpa using h2)
    | exact Prod.Lex.left _ _ (by simpa using h3)
    | exact Prod.Lex.right _ (by simp [Md.rank])
    | (simp [Md.rank]; done)
    | (simp at *; omega)
end K83
namespace K83
open PySem
def Md.lt (m : Md) (r ws : List Wd) : Prop := match m with
  | .more _ => r.length ≤ ws.length
  | _ => r.length < ws.length
theorem hd_ne {ws : List Wd} (h : hd ws ≠ []) : ws ≠ [] := fun e => h (by rw [e]; rfl)
theorem drop_lt {ws : List Wd} {k : Nat} (h : hd ws ≠ []) (hk : 0 < k) : (ws.drop k).length < ws.length := by
  have : ws.length ≠ 0 := fun e => hd_ne h (List.eq_nil_of_length_eq_zero e)
  rw [List.length_drop]
  omega
theorem lone_ne {w : Wd} {ar : Ar} {t : T} (h : lone w ar = some t) : w ≠ [] := fun e => by
  rw [e, lone_nil] at h
  cases h
theorem rd_short : ∀ (n : Nat) (m : Md) (ar : Ar) (ws : List Wd) (t : T) (r : List Wd), 4 * ws.length + m.rank ≤ n → rd m ar ws = some (t, r) → m.lt r ws := by
  intro n
  induction n with
  | zero =>
    intro m ar ws t r hn h
    have hw : ws = [] := List.eq_nil_of_length_eq_zero (by omega)
    subst hw
    cases m <;> simp [Md.rank] at hn
    rw [rd] at h
    simp [hd, lone_nil, wOpn] at h
  | succ n ih =>
    intro m ar ws t r hn h
    cases m with
    | term =>
      rw [rd] at h
      simp only [Md.rank] at hn
      split at h
      · split at h
        · cases h
        · split at h
          · split at h
            · rename_i h1
              split at h
              · cases h
              · split at h
                · split at h
                  · rename_i h2
                    split at h
                    · cases h
                    · rename_i e
                      cases h
                      have := ih .term _ _ _ _ (by simp only [Md.rank]; omega) e
                      simp only [Md.lt] at this ⊢
                      omega
                  · cases h
                · cases h
            · cases h
          · cases h
      · split at h
        · cases h
        · rename_i e
          have e1 := ih .row _ _ _ _ (by simp only [Md.rank]; omega) e
          simp only [Md.lt] at e1
          split at h
          · split at h
            · rename_i h2
              split at h
              · cases h
              · rename_i e2
                cases h
                have := ih .term _ _ _ _ (by simp only [Md.rank]; omega) e2
                simp only [Md.lt] at this ⊢
                omega
            · cases h
          · cases h
            simp only [Md.lt]
            omega
    | row =>
      rw [rd] at h
      simp only [Md.rank] at hn
      split at h
      · split at h
        · rename_i h1
          split at h
          · cases h
          · split at h
            · rename_i h2
              split at h
              · cases h
              · split at h
                · rename_i h3
                  split at h
                  · cases h
                  · rename_i e
                    cases h
                    have := ih .part _ _ _ _ (by simp only [Md.rank]; omega) e
                    simp only [Md.lt] at this ⊢
                    omega
                · cases h
            · cases h
        · cases h
      · split at h
        · split at h
          · rename_i h1
            split at h
            · cases h
            · split at h
              · rename_i h2
                split at h
                · cases h
                · rename_i e
                  cases h
                  have := ih .part _ _ _ _ (by simp only [Md.rank]; omega) e
                  simp only [Md.lt] at this ⊢
                  omega
              · cases h
          · cases h
        · split at h
          · cases h
          · split at h
            · rename_i h1
              have := ih (.more _) _ _ _ _ (by simp only [Md.rank]; omega) h
              simp only [Md.lt] at this ⊢
              omega
            · cases h
    | part =>
      rw [rd] at h
      simp only [Md.rank] at hn
      split at h
      · split at h
        · rename_i h1
          split at h
          · cases h
          · rename_i e
            split at h
            · rename_i e2
              cases h
              have := ih .term _ _ _ _ (by simp only [Md.rank]; omega) e
              simp only [Md.lt] at this ⊢
              rw [List.length_drop]
              omega
            · cases h
        · cases h
      · split at h
        · cases h
        · rename_i e
          cases h
          cases ws with
          | nil => simp [hd, lone_nil] at e
          | cons w ws => simp [Md.lt]
    | more f =>
      rw [rd] at h
      simp only [Md.rank] at hn
      split at h
      · split at h
        · cases h
        · split at h
          · rename_i h1
            have := ih (.more _) _ _ _ _ (by simp only [Md.rank]; omega) h
            simp only [Md.lt] at this ⊢
            omega
          · cases h
      · cases h
        simp [Md.lt]
theorem rd_lt {m : Md} {ar : Ar} {ws : List Wd} {t : T} {r : List Wd} (h : rd m ar ws = some (t, r)) : m.lt r ws := rd_short _ m ar ws t r (Nat.le_refl _) h
theorem part_lt {ar : Ar} {ws : List Wd} {t : T} {r : List Wd} (h : rd .part ar ws = some (t, r)) : r.length < ws.length := rd_lt h
theorem row_lt {ar : Ar} {ws : List Wd} {t : T} {r : List Wd} (h : rd .row ar ws = some (t, r)) : r.length < ws.length := rd_lt h
theorem term_lt {ar : Ar} {ws : List Wd} {t : T} {r : List Wd} (h : rd .term ar ws = some (t, r)) : r.length < ws.length := rd_lt h
/-! ### the reader, without its bounds -/
theorem drop1_le (ws : List Wd) (k : Nat) : (ws.drop k).length ≤ ws.length := by rw [List.length_drop]; omega
theorem wAll_ne : wAll ≠ [] := by decide
theorem rd_term (ar : Ar) (ws : List Wd) : rd .term ar ws =
    if hd ws = wAll ∨ hd ws = wFun then
      (bnd (hd (ws.drop 1))).bind fun k => if hd (ws.drop 2) = wCol then (rd .term ar (ws.drop 3)).bind fun p => if hd p.2 = wDot then (rd .term (ar ++ [some k]) (p.2.drop 1)).bind fun q => some (.n2 (hd ws) p.1 q.1, q.2) else none else none
    else (rd .row ar ws).bind fun p => if hd p.2 = wArr then (rd .term (ar ++ [none]) (p.2.drop 1)).bind fun q => some (.n2 wAll p.1 q.1, q.2) else some p := by
  rw [rd]
  split
  · rename_i h
    have hn : hd ws ≠ [] := by rcases h with h | h <;> rw [h] <;> decide
    cases bnd (hd (ws.drop 1)) with
    | none => rfl
    | some k =>
      simp only [Option.bind_some]
      split
      · rw [dif_pos (drop_lt hn (by decide))]
        cases e : rd .term ar (ws.drop 3) with
        | none => rfl
        | some p =>
          obtain ⟨s, r⟩ := p
          have := term_lt e
          simp only [Option.bind_some]
          split
          · rw [dif_pos (by have := drop1_le ws 3; have := drop1_le r 1; omega)]
            cases rd .term (ar ++ [some k]) (r.drop 1) <;> rfl
          · rfl
      · rfl
  · cases e : rd .row ar ws with
    | none => rfl
    | some p =>
      obtain ⟨s, r⟩ := p
      have := row_lt e
      simp only [Option.bind_some]
      split
      · rw [dif_pos (by have := drop1_le r 1; omega)]
        cases rd .term (ar ++ [none]) (r.drop 1) <;> rfl
      · rfl
theorem rd_row (ar : Ar) (ws : List Wd) : rd .row ar ws =
    if hd ws = wSame ∨ hd ws = wPut then (rd .part ar (ws.drop 1)).bind fun p => (rd .part ar p.2).bind fun q => (rd .part ar q.2).bind fun s => some (.n3 (hd ws) p.1 q.1 s.1, s.2)
    else if hd ws = wSelf then (rd .part ar (ws.drop 1)).bind fun p => (rd .part ar p.2).bind fun q => some (.n2 wSelf p.1 q.1, q.2)
    else (rd .part ar ws).bind fun p => rd (.more p.1) ar p.2 := by
  rw [rd]
  split
  · rename_i h
    have hn : hd ws ≠ [] := by rcases h with h | h <;> rw [h] <;> decide
    rw [dif_pos (drop_lt hn (by decide))]
    cases e : rd .part ar (ws.drop 1) with
    | none => rfl
    | some p =>
      obtain ⟨x, r⟩ := p
      have h1 := part_lt e
      have h0 := drop1_le ws 1
      simp only [Option.bind_some]
      rw [dif_pos (by omega)]
      cases e2 : rd .part ar r with
      | none => rfl
      | some q =>
        obtain ⟨y, r2⟩ := q
        have h2 := part_lt e2
        simp only [Option.bind_some]
        rw [dif_pos (by omega)]
        cases rd .part ar r2 <;> rfl
  · split
    · rename_i h
      have hn : hd ws ≠ [] := by rw [h]; decide
      rw [dif_pos (drop_lt hn (by decide))]
      cases e : rd .part ar (ws.drop 1) with
      | none => rfl
      | some p =>
        obtain ⟨x, r⟩ := p
        have h1 := part_lt e
        have h0 := drop1_le ws 1
        simp only [Option.bind_some]
        rw [dif_pos (by omega)]
        cases rd .part ar r <;> rfl
    · cases e : rd .part ar ws with
      | none => rfl
      | some p =>
        obtain ⟨x, r⟩ := p
        have h1 := part_lt e
        simp only [Option.bind_some]
        rw [dif_pos h1]
theorem rd_more (f : T) (ar : Ar) (ws : List Wd) : rd (.more f) ar ws =
    if hd ws = wOpn ∨ (lone (hd ws) ar).isSome = true then (rd .part ar ws).bind fun p => rd (.more (.n2 wApp f p.1)) ar p.2 else some (f, ws) := by
  rw [rd]
  split
  · cases e : rd .part ar ws with
    | none => rfl
    | some p =>
      obtain ⟨x, r⟩ := p
      have h1 := part_lt e
      simp only [Option.bind_some]
      rw [dif_pos h1]
  · rfl
theorem rd_part (ar : Ar) (ws : List Wd) : rd .part ar ws =
    if hd ws = wOpn then (rd .term ar (ws.drop 1)).bind fun p => if hd p.2 = wCls then some (p.1, p.2.drop 1) else none
    else (lone (hd ws) ar).map fun t => (t, ws.drop 1) := by
  conv => lhs; rw [rd]
  split
  · rename_i h
    have hn : hd ws ≠ [] := by rw [h]; decide
    rw [dif_pos (drop_lt hn (by decide))]
    cases rd .term ar (ws.drop 1) <;> rfl
  · cases lone (hd ws) ar <;> rfl
/-! ### what is left are the last of the words -/
theorem rd_suff : ∀ (n : Nat) (m : Md) (ar : Ar) (ws : List Wd) (t : T) (r : List Wd), 4 * ws.length + m.rank ≤ n → rd m ar ws = some (t, r) → ∃ k, r = ws.drop k ∧ ((∀ f, m ≠ .more f) → 0 < k) := by
  intro n
  induction n with
  | zero =>
    intro m ar ws t r hn h
    have hw : ws = [] := List.eq_nil_of_length_eq_zero (by omega)
    subst hw
    have := rd_lt h
    cases m <;> simp [Md.rank] at hn
    simp [Md.lt] at this
  | succ n ih =>
    intro m ar ws t r hn h
    have key : ∀ {m' : Md} {ar' : Ar} {k : Nat} {t' : T} {r' : List Wd}, rd m' ar' (ws.drop k) = some (t', r') → 4 * (ws.drop k).length + m'.rank ≤ n → ∃ j, r' = ws.drop j ∧ k ≤ j := by
      intro m' ar' k t' r' e hl
      obtain ⟨j, hj, _⟩ := ih m' ar' _ _ _ hl e
      exact ⟨k + j, by rw [hj, List.drop_drop], by omega⟩
    have lts : ∀ {m' : Md} {ar' : Ar} {k : Nat} {t' : T} {j : Nat}, (∀ f, m' ≠ .more f) → rd m' ar' (ws.drop k) = some (t', ws.drop j) → (ws.drop j).length < (ws.drop k).length := by
      intro m' ar' k t' j hm e
      have := rd_lt e
      cases m' with
      | more f => exact absurd rfl (hm f)
      | _ => exact this
    cases m with
    | term =>
      rw [rd_term] at h
      simp only [Md.rank] at hn
      split at h
      · rename_i hh
        have hne : hd ws ≠ [] := by rcases hh with h | h <;> rw [h] <;> decide
        have hlen := drop_lt hne (k := 3) (by decide)
        cases eb : bnd (hd (ws.drop 1)) with
        | none => rw [eb] at h; cases h
        | some k =>
          rw [eb, Option.bind_some] at h
          split at h
          · cases e : rd .term ar (ws.drop 3) with
            | none => rw [e] at h; cases h
            | some p =>
              obtain ⟨s, r1⟩ := p
              rw [e, Option.bind_some] at h
              obtain ⟨j, rfl, hj⟩ := key e (by simp only [Md.rank]; omega)
              have l1 := lts (fun f => by simp) e
              simp only at h
              split at h
              · rw [List.drop_drop] at h
                cases e2 : rd .term (ar ++ [some k]) (ws.drop (j + 1)) with
                | none => rw [e2] at h; cases h
                | some q =>
                  obtain ⟨b, r2⟩ := q
                  rw [e2, Option.bind_some] at h
                  cases h
                  obtain ⟨i, rfl, hi⟩ := key e2 (by simp only [Md.rank, List.length_drop] at l1 ⊢; omega)
                  exact ⟨i, rfl, fun _ => by omega⟩
              · cases h
          · cases h
      · cases e : rd .row ar ws with
        | none => rw [e] at h; cases h
        | some p =>
          obtain ⟨s, r1⟩ := p
          rw [e, Option.bind_some] at h
          obtain ⟨j, rfl, hj⟩ := ih .row _ _ _ _ (by simp only [Md.rank]; omega) e
          have hj' := hj (fun f => by simp)
          have l1 := row_lt e
          simp only at h
          split at h
          · rw [List.drop_drop] at h
            cases e2 : rd .term (ar ++ [none]) (ws.drop (j + 1)) with
            | none => rw [e2] at h; cases h
            | some q =>
              obtain ⟨b, r2⟩ := q
              rw [e2, Option.bind_some] at h
              cases h
              obtain ⟨i, rfl, hi⟩ := key e2 (by simp only [Md.rank, List.length_drop] at l1 ⊢; omega)
              exact ⟨i, rfl, fun _ => by omega⟩
          · cases h
            exact ⟨j, rfl, fun _ => hj'⟩
    | row =>
      rw [rd_row] at h
      simp only [Md.rank] at hn
      split at h
      · rename_i hh
        have hne : hd ws ≠ [] := by rcases hh with h | h <;> rw [h] <;> decide
        have hlen := drop_lt hne (k := 1) (by decide)
        cases e : rd .part ar (ws.drop 1) with
        | none => rw [e] at h; cases h
        | some p =>
          obtain ⟨x, r1⟩ := p
          rw [e, Option.bind_some] at h
          obtain ⟨j, rfl, hj⟩ := key e (by simp only [Md.rank]; omega)
          have l1 := lts (fun f => by simp) e
          simp only at h
          cases e2 : rd .part ar (ws.drop j) with
          | none => rw [e2] at h; cases h
          | some q =>
            obtain ⟨y, r2⟩ := q
            rw [e2, Option.bind_some] at h
            obtain ⟨i, rfl, hi⟩ := key e2 (by simp only [Md.rank]; omega)
            have l2 := lts (fun f => by simp) e2
            simp only at h
            cases e3 : rd .part ar (ws.drop i) with
            | none => rw [e3] at h; cases h
            | some s =>
              obtain ⟨z, r3⟩ := s
              rw [e3, Option.bind_some] at h
              cases h
              obtain ⟨l, rfl, hl⟩ := key e3 (by simp only [Md.rank]; omega)
              exact ⟨l, rfl, fun _ => by omega⟩
      · split at h
        · rename_i hh
          have hne : hd ws ≠ [] := by rw [hh]; decide
          have hlen := drop_lt hne (k := 1) (by decide)
          cases e : rd .part ar (ws.drop 1) with
          | none => rw [e] at h; cases h
          | some p =>
            obtain ⟨x, r1⟩ := p
            rw [e, Option.bind_some] at h
            obtain ⟨j, rfl, hj⟩ := key e (by simp only [Md.rank]; omega)
            have l1 := lts (fun f => by simp) e
            simp only at h
            cases e2 : rd .part ar (ws.drop j) with
            | none => rw [e2] at h; cases h
            | some q =>
              obtain ⟨y, r2⟩ := q
              rw [e2, Option.bind_some] at h
              cases h
              obtain ⟨i, rfl, hi⟩ := key e2 (by simp only [Md.rank]; omega)
              exact ⟨i, rfl, fun _ => by omega⟩
        · cases e : rd .part ar ws with
          | none => rw [e] at h; cases h
          | some p =>
            obtain ⟨x, r1⟩ := p
            rw [e, Option.bind_some] at h
            obtain ⟨j, rfl, hj⟩ := ih .part _ _ _ _ (by simp only [Md.rank]; omega) e
            have hj' := hj (fun f => by simp)
            have l1 := part_lt e
            obtain ⟨i, rfl, hi⟩ := key h (by simp only [Md.rank]; omega)
            exact ⟨i, rfl, fun _ => by omega⟩
    | part =>
      rw [rd_part] at h
      simp only [Md.rank] at hn
      split at h
      · rename_i hh
        have hne : hd ws ≠ [] := by rw [hh]; decide
        have hlen := drop_lt hne (k := 1) (by decide)
        cases e : rd .term ar (ws.drop 1) with
        | none => rw [e] at h; cases h
        | some p =>
          obtain ⟨x, r1⟩ := p
          rw [e, Option.bind_some] at h
          obtain ⟨j, rfl, hj⟩ := key e (by simp only [Md.rank]; omega)
          simp only at h
          split at h
          · cases h
            exact ⟨j + 1, by rw [List.drop_drop], fun _ => by omega⟩
          · cases h
      · cases e : lone (hd ws) ar with
        | none => rw [e] at h; cases h
        | some t =>
          rw [e] at h
          cases h
          exact ⟨1, rfl, fun _ => by omega⟩
    | more f =>
      rw [rd_more] at h
      simp only [Md.rank] at hn
      split at h
      · cases e : rd .part ar ws with
        | none => rw [e] at h; cases h
        | some p =>
          obtain ⟨x, r1⟩ := p
          rw [e, Option.bind_some] at h
          obtain ⟨j, rfl, hj⟩ := ih .part _ _ _ _ (by simp only [Md.rank]; omega) e
          have l1 := part_lt e
          obtain ⟨i, rfl, hi⟩ := key h (by simp only [Md.rank]; omega)
          exact ⟨i, rfl, fun hg => absurd rfl (hg f)⟩
      · cases h
        exact ⟨0, rfl, fun hg => absurd rfl (hg _)⟩
theorem rd_drop {m : Md} {ar : Ar} {ws : List Wd} {t : T} {r : List Wd} (h : rd m ar ws = some (t, r)) : ∃ k, r = ws.drop k := let ⟨k, h, _⟩ := rd_suff _ m ar ws t r (Nat.le_refl _) h; ⟨k, h⟩
end K83
namespace K83
open PySem
/-! ### the law's machine -/
inductive Wish where
  | over | term | row | part | more | arrow | inn | out | binder | word (w : Wd) | build (w : Wd) | build3 (w : Wd) | build2 (w : Wd)
structure LS where
  ar : Ar
  bg : List Nat
  md : List T
  wt : List Wish
  ws : List Wd
/-- one turn: none where the law's machine can't come; some none: refused -/
def stp (s : LS) : Option (Option LS) := match s.wt with
  | [] => none
  | .build w :: W => (match s.md with
    | y :: x :: m => some (some { s with md := .n2 w x y :: m, wt := W })
    | _ => none)
  | .build2 w :: W => (match s.md with
    | y :: x :: m => some (some { s with md := .n2 w x y :: m, wt := W })
    | _ => none)
  | .build3 w :: W => (match s.md with
    | z :: y :: x :: m => some (some { s with md := .n3 w x y z :: m, wt := W })
    | _ => none)
  | .inn :: W => (match s.bg with
    | k :: b => some (some { s with ar := s.ar ++ [some k], bg := b, wt := W })
    | _ => none)
  | .out :: W => if s.ar = [] then none else some (some { s with ar := s.ar.dropLast, wt := W })
  | .term :: W => some (some { s with wt := (if hd s.ws = wAll ∨ hd s.ws = wFun then [.word (hd s.ws), .binder, .word wCol, .term, .word wDot, .inn, .term, .out, .build (hd s.ws)] else [.row, .arrow]) ++ W })
  | .row :: W => some (some { s with wt := (if hd s.ws = wSame ∨ hd s.ws = wPut then [.word (hd s.ws), .part, .part, .part, .build3 (hd s.ws)] else if hd s.ws = wSelf then [.word (hd s.ws), .part, .part, .build2 (hd s.ws)] else [.part, .more]) ++ W })
  | .arrow :: W => if hd s.ws = wArr then some (some { s with ar := s.ar ++ [none], wt := [.term, .out, .build wAll] ++ W, ws := s.ws.drop 1 }) else some (some { s with wt := W })
  | .more :: W => if hd s.ws = wOpn ∨ (lone (hd s.ws) s.ar).isSome = true then some (some { s with wt := [.part, .build wApp, .more] ++ W }) else some (some { s with wt := W })
  | .part :: W => if hd s.ws = wOpn then some (some { s with wt := [.term, .word wCls] ++ W, ws := s.ws.drop 1 }) else (match lone (hd s.ws) s.ar with
    | none => some none
    | some t => some (some { s with md := t :: s.md, wt := W, ws := s.ws.drop 1 }))
  | .over :: W => if s.ws = [] then some (some { s with wt := W }) else some none
  | .binder :: W => (match bnd (hd s.ws) with
    | none => some none
    | some k => some (some { s with bg := k :: s.bg, wt := W, ws := s.ws.drop 1 }))
  | .word w :: W => if hd s.ws = w then some (some { s with wt := W, ws := s.ws.drop 1 }) else some none
/-- it goes from s to u in n turns -/
def Goes : Nat → LS → LS → Prop
  | 0, s, u => u = s
  | n + 1, s, u => ∃ v, stp s = some (some v) ∧ Goes n v u
def Fails : Nat → LS → Prop
  | 0, _ => False
  | n + 1, s => stp s = some none ∨ ∃ v, stp s = some (some v) ∧ Fails n v
/-- from s it ends with r within n turns -/
def Ends : Nat → LS → Option T → Prop
  | 0, s, r => s.wt = [] ∧ ∃ t, s.md = [t] ∧ r = some t
  | n + 1, s, r => (stp s = some none ∧ r = none) ∨ ∃ v, stp s = some (some v) ∧ Ends n v r
def To (s u : LS) : Prop := ∃ n, Goes n s u
def Bad (s : LS) : Prop := ∃ n, Fails n s
theorem Goes.trans : ∀ {n m : Nat} {s u v : LS}, Goes n s u → Goes m u v → Goes (n + m) s v
  | 0, m, s, u, v, h, g => by cases h; rw [Nat.zero_add]; exact g
  | n + 1, m, s, u, v, ⟨x, h1, h2⟩, g => by rw [Nat.add_right_comm]; exact ⟨x, h1, h2.trans g⟩
theorem Goes.fails : ∀ {n m : Nat} {s u : LS}, Goes n s u → Fails m u → Fails (n + m) s
  | 0, m, s, u, h, g => by cases h; rw [Nat.zero_add]; exact g
  | n + 1, m, s, u, ⟨x, h1, h2⟩, g => by rw [Nat.add_right_comm]; exact .inr ⟨x, h1, h2.fails g⟩
theorem Goes.ends : ∀ {n m : Nat} {s u : LS} {r : Option T}, Goes n s u → Ends m u r → Ends (n + m) s r
  | 0, m, s, u, r, h, g => by cases h; rw [Nat.zero_add]; exact g
  | n + 1, m, s, u, r, ⟨x, h1, h2⟩, g => by rw [Nat.add_right_comm]; exact .inr ⟨x, h1, h2.ends g⟩
theorem Fails.ends : ∀ {n : Nat} {s : LS}, Fails n s → Ends n s none
  | n + 1, s, .inl h => .inl ⟨h, rfl⟩
  | n + 1, s, .inr ⟨v, h1, h2⟩ => .inr ⟨v, h1, h2.ends⟩
theorem To.trans {s u v : LS} (h : To s u) (g : To u v) : To s v := let ⟨n, h⟩ := h; let ⟨m, g⟩ := g; ⟨n + m, h.trans g⟩
theorem To.bad {s u : LS} (h : To s u) (g : Bad u) : Bad s := let ⟨n, h⟩ := h; let ⟨m, g⟩ := g; ⟨n + m, h.fails g⟩
theorem To.one {s u : LS} (h : stp s = some (some u)) : To s u := ⟨1, u, h, rfl⟩
theorem Bad.one {s : LS} (h : stp s = some none) : Bad s := ⟨1, .inl h⟩
def Md.wish : Md → Wish
  | .term => .term
  | .row => .row
  | .part => .part
  | .more _ => .more
def Md.put : Md → List T → List T
  | .more f, md => f :: md
  | _, md => md
/-- the machine does what the reader tells -/
def Does (x : RR) (m : Md) (ar : Ar) (ws : List Wd) : Prop := ∀ bg md W, match x with
  | some (t, r) => To ⟨ar, bg, m.put md, m.wish :: W, ws⟩ ⟨ar, bg, t :: md, W, r⟩
  | none => Bad ⟨ar, bg, m.put md, m.wish :: W, ws⟩
theorem word_to {ar : Ar} {bg : List Nat} {md : List T} {W : List Wish} {ws : List Wd} {w : Wd} (h : hd ws = w) : To ⟨ar, bg, md, .word w :: W, ws⟩ ⟨ar, bg, md, W, ws.drop 1⟩ := To.one (by simp [stp, h])
theorem word_bad {ar : Ar} {bg : List Nat} {md : List T} {W : List Wish} {ws : List Wd} {w : Wd} (h : hd ws ≠ w) : Bad ⟨ar, bg, md, .word w :: W, ws⟩ := Bad.one (by simp [stp, h])
theorem does : ∀ (n : Nat) (m : Md) (ar : Ar) (ws : List Wd), 4 * ws.length + m.rank ≤ n → Does (rd m ar ws) m ar ws := by
  intro n
  induction n using Nat.strongRecOn with
  | ind n ih =>
  intro m ar ws hn bg md W
  have sub : ∀ {m' : Md} {ar' : Ar} {ws' : List Wd}, 4 * ws'.length + m'.rank < 4 * ws.length + m.rank → Does (rd m' ar' ws') m' ar' ws' := fun h => ih _ (by omega) _ _ _ (Nat.le_refl _)
  cases m with
  | term =>
    rw [rd_term]
    by_cases hh : hd ws = wAll ∨ hd ws = wFun
    · rw [if_pos hh]
      have hne : hd ws ≠ [] := by rcases hh with h | h <;> rw [h] <;> decide
      have l3 := drop_lt hne (k := 3) (by decide)
      have s0 : To ⟨ar, bg, Md.put .term md, Md.wish .term :: W, ws⟩ ⟨ar, bg, md, [.word (hd ws), .binder, .word wCol, .term, .word wDot, .inn, .term, .out, .build (hd ws)] ++ W, ws⟩ := To.one (by simp [stp, Md.wish, Md.put, hh])
      have s1 := s0.trans (word_to (W := [.binder, .word wCol, .term, .word wDot, .inn, .term, .out, .build (hd ws)] ++ W) rfl)
      cases eb : bnd (hd (ws.drop 1)) with
      | none => exact s1.bad (Bad.one (by simp only [stp, List.cons_append]; rw [eb]))
      | some k =>
        have s2 := s1.trans (To.one (u := ⟨ar, k :: bg, md, [.word wCol, .term, .word wDot, .inn, .term, .out, .build (hd ws)] ++ W, ws.drop 2⟩) (by simp only [stp, List.cons_append]; rw [eb, List.drop_drop]))
        simp only [Option.bind_some]
        by_cases hc : hd (ws.drop 2) = wCol
        · rw [if_pos hc]
          have s3 := s2.trans (word_to (W := [.term, .word wDot, .inn, .term, .out, .build (hd ws)] ++ W) hc)
          rw [List.drop_drop] at s3
          have d1 := sub (m' := .term) (ar' := ar) (ws' := ws.drop 3) (by simp only [Md.rank]; omega) (k :: bg) md ([.word wDot, .inn, .term, .out, .build (hd ws)] ++ W)
          cases e : rd .term ar (ws.drop 3) with
          | none =>
            rw [e] at d1
            exact s3.bad d1
          | some p =>
            obtain ⟨s, r⟩ := p
            rw [e] at d1
            have s4 := s3.trans d1
            have l1 := term_lt e
            simp only [Option.bind_some]
            by_cases hd' : hd r = wDot
            · rw [if_pos hd']
              have s5 := s4.trans (word_to (W := [.inn, .term, .out, .build (hd ws)] ++ W) hd')
              have s6 := s5.trans (To.one (u := ⟨ar ++ [some k], bg, s :: md, [.term, .out, .build (hd ws)] ++ W, r.drop 1⟩) (by simp [stp]))
              have d2 := sub (m' := .term) (ar' := ar ++ [some k]) (ws' := r.drop 1) (by have := drop1_le r 1; simp only [Md.rank]; omega) bg (s :: md) ([.out, .build (hd ws)] ++ W)
              cases e2 : rd .term (ar ++ [some k]) (r.drop 1) with
              | none =>
                rw [e2] at d2
                exact s6.bad d2
              | some q =>
                obtain ⟨b, r2⟩ := q
                rw [e2] at d2
                have s7 := s6.trans d2
                have s8 := s7.trans (To.one (u := ⟨ar, bg, b :: s :: md, [.build (hd ws)] ++ W, r2⟩) (by simp [stp]))
                exact s8.trans (To.one (by simp [stp]))
            · rw [if_neg hd']
              exact s4.bad (word_bad hd')
        · rw [if_neg hc]
          exact s2.bad (word_bad hc)
    · rw [if_neg hh]
      have s0 : To ⟨ar, bg, Md.put .term md, Md.wish .term :: W, ws⟩ ⟨ar, bg, md, .row :: .arrow :: W, ws⟩ := To.one (by simp [stp, Md.wish, Md.put, hh])
      have d1 := sub (m' := .row) (ar' := ar) (ws' := ws) (by simp only [Md.rank]; omega) bg md (.arrow :: W)
      cases e : rd .row ar ws with
      | none =>
        rw [e] at d1
        exact s0.bad d1
      | some p =>
        obtain ⟨l, r⟩ := p
        rw [e] at d1
        have s1 := s0.trans d1
        have l1 := row_lt e
        simp only [Option.bind_some]
        by_cases ha : hd r = wArr
        · rw [if_pos ha]
          have s2 := s1.trans (To.one (u := ⟨ar ++ [none], bg, l :: md, .term :: .out :: .build wAll :: W, r.drop 1⟩) (by simp [stp, ha]))
          have d2 := sub (m' := .term) (ar' := ar ++ [none]) (ws' := r.drop 1) (by have := drop1_le r 1; simp only [Md.rank]; omega) bg (l :: md) (.out :: .build wAll :: W)
          cases e2 : rd .term (ar ++ [none]) (r.drop 1) with
          | none =>
            rw [e2] at d2
            exact s2.bad d2
          | some q =>
            obtain ⟨b, r2⟩ := q
            rw [e2] at d2
            have s3 := s2.trans d2
            have s4 := s3.trans (To.one (u := ⟨ar, bg, b :: l :: md, .build wAll :: W, r2⟩) (by simp [stp]))
            exact s4.trans (To.one (by simp [stp]))
        · rw [if_neg ha]
          exact s1.trans (To.one (by simp [stp, ha]))
  | row =>
    rw [rd_row]
    by_cases h3 : hd ws = wSame ∨ hd ws = wPut
    · rw [if_pos h3]
      have hne : hd ws ≠ [] := by rcases h3 with h | h <;> rw [h] <;> decide
      have l0 := drop_lt hne (k := 1) (by decide)
      have s0 : To ⟨ar, bg, Md.put .row md, Md.wish .row :: W, ws⟩ ⟨ar, bg, md, [.word (hd ws), .part, .part, .part, .build3 (hd ws)] ++ W, ws⟩ := To.one (by simp [stp, Md.wish, Md.put, h3])
      have s1 := s0.trans (word_to (W := [.part, .part, .part, .build3 (hd ws)] ++ W) rfl)
      have d1 := sub (m' := .part) (ar' := ar) (ws' := ws.drop 1) (by simp only [Md.rank]; omega) bg md ([.part, .part, .build3 (hd ws)] ++ W)
      cases e : rd .part ar (ws.drop 1) with
      | none => rw [e] at d1; exact s1.bad d1
      | some p =>
        obtain ⟨x, r⟩ := p
        rw [e] at d1
        have s2 := s1.trans d1
        have l1 := part_lt e
        simp only [Option.bind_some]
        have d2 := sub (m' := .part) (ar' := ar) (ws' := r) (by simp only [Md.rank]; omega) bg (x :: md) ([.part, .build3 (hd ws)] ++ W)
        cases e2 : rd .part ar r with
        | none => rw [e2] at d2; exact s2.bad d2
        | some q =>
          obtain ⟨y, r2⟩ := q
          rw [e2] at d2
          have s3 := s2.trans d2
          have l2 := part_lt e2
          simp only [Option.bind_some]
          have d3 := sub (m' := .part) (ar' := ar) (ws' := r2) (by simp only [Md.rank]; omega) bg (y :: x :: md) ([.build3 (hd ws)] ++ W)
          cases e3 : rd .part ar r2 with
          | none => rw [e3] at d3; exact s3.bad d3
          | some q =>
            obtain ⟨z, r3⟩ := q
            rw [e3] at d3
            exact (s3.trans d3).trans (To.one (by simp [stp]))
    · rw [if_neg h3]
      by_cases h2 : hd ws = wSelf
      · rw [if_pos h2]
        have hne : hd ws ≠ [] := by rw [h2]; decide
        have l0 := drop_lt hne (k := 1) (by decide)
        have s0 : To ⟨ar, bg, Md.put .row md, Md.wish .row :: W, ws⟩ ⟨ar, bg, md, [.word (hd ws), .part, .part, .build2 (hd ws)] ++ W, ws⟩ := To.one (by simp only [stp, Md.wish, Md.put]; rw [if_neg h3, if_pos h2])
        have s1 := s0.trans (word_to (W := [.part, .part, .build2 (hd ws)] ++ W) rfl)
        have d1 := sub (m' := .part) (ar' := ar) (ws' := ws.drop 1) (by simp only [Md.rank]; omega) bg md ([.part, .build2 (hd ws)] ++ W)
        cases e : rd .part ar (ws.drop 1) with
        | none => rw [e] at d1; exact s1.bad d1
        | some p =>
          obtain ⟨x, r⟩ := p
          rw [e] at d1
          have s2 := s1.trans d1
          have l1 := part_lt e
          simp only [Option.bind_some]
          have d2 := sub (m' := .part) (ar' := ar) (ws' := r) (by simp only [Md.rank]; omega) bg (x :: md) ([.build2 (hd ws)] ++ W)
          cases e2 : rd .part ar r with
          | none => rw [e2] at d2; exact s2.bad d2
          | some q =>
            obtain ⟨y, r2⟩ := q
            rw [e2] at d2
            exact (s2.trans d2).trans (To.one (by simp [stp, h2]))
      · rw [if_neg h2]
        have s0 : To ⟨ar, bg, Md.put .row md, Md.wish .row :: W, ws⟩ ⟨ar, bg, md, .part :: .more :: W, ws⟩ := To.one (by simp only [stp, Md.wish, Md.put]; rw [if_neg h3, if_neg h2]; rfl)
        have d1 := sub (m' := .part) (ar' := ar) (ws' := ws) (by simp only [Md.rank]; omega) bg md (.more :: W)
        cases e : rd .part ar ws with
        | none => rw [e] at d1; exact s0.bad d1
        | some p =>
          obtain ⟨x, r⟩ := p
          rw [e] at d1
          have s1 := s0.trans d1
          have l1 := part_lt e
          simp only [Option.bind_some]
          have d2 := sub (m' := .more x) (ar' := ar) (ws' := r) (by simp only [Md.rank]; omega) bg md W
          cases e2 : rd (.more x) ar r with
          | none => rw [e2] at d2; exact s1.bad d2
          | some q => rw [e2] at d2; exact s1.trans d2
  | more f =>
    rw [rd_more]
    by_cases hh : hd ws = wOpn ∨ (lone (hd ws) ar).isSome = true
    · rw [if_pos hh]
      have s0 : To ⟨ar, bg, Md.put (.more f) md, Md.wish (.more f) :: W, ws⟩ ⟨ar, bg, f :: md, .part :: .build wApp :: .more :: W, ws⟩ := To.one (by simp only [stp, Md.wish, Md.put]; rw [if_pos hh]; rfl)
      have d1 := sub (m' := .part) (ar' := ar) (ws' := ws) (by simp only [Md.rank]; omega) bg (f :: md) (.build wApp :: .more :: W)
      cases e : rd .part ar ws with
      | none => rw [e] at d1; exact s0.bad d1
      | some p =>
        obtain ⟨x, r⟩ := p
        rw [e] at d1
        have s1 := s0.trans d1
        have l1 := part_lt e
        simp only [Option.bind_some]
        have s2 := s1.trans (To.one (u := ⟨ar, bg, .n2 wApp f x :: md, .more :: W, r⟩) (by simp [stp]))
        have d2 := sub (m' := .more (.n2 wApp f x)) (ar' := ar) (ws' := r) (by simp only [Md.rank]; omega) bg md W
        cases e2 : rd (.more (.n2 wApp f x)) ar r with
        | none => rw [e2] at d2; exact s2.bad d2
        | some q => rw [e2] at d2; exact s2.trans d2
    · rw [if_neg hh]
      exact To.one (by simp only [stp, Md.wish, Md.put]; rw [if_neg hh])
  | part =>
    rw [rd_part]
    by_cases hh : hd ws = wOpn
    · rw [if_pos hh]
      have hne : hd ws ≠ [] := by rw [hh]; decide
      have l0 := drop_lt hne (k := 1) (by decide)
      have s0 : To ⟨ar, bg, Md.put .part md, Md.wish .part :: W, ws⟩ ⟨ar, bg, md, .term :: .word wCls :: W, ws.drop 1⟩ := To.one (by simp only [stp, Md.wish, Md.put]; rw [if_pos hh]; rfl)
      have d1 := sub (m' := .term) (ar' := ar) (ws' := ws.drop 1) (by simp only [Md.rank]; omega) bg md (.word wCls :: W)
      cases e : rd .term ar (ws.drop 1) with
      | none => rw [e] at d1; exact s0.bad d1
      | some p =>
        obtain ⟨x, r⟩ := p
        rw [e] at d1
        have s1 := s0.trans d1
        simp only [Option.bind_some]
        by_cases hc : hd r = wCls
        · rw [if_pos hc]
          exact s1.trans (word_to hc)
        · rw [if_neg hc]
          exact s1.bad (word_bad hc)
    · rw [if_neg hh]
      cases e : lone (hd ws) ar with
      | none => exact Bad.one (by simp only [stp, Md.wish, Md.put]; rw [if_neg hh, e])
      | some t => exact To.one (by simp only [stp, Md.wish, Md.put]; rw [if_neg hh, e])
/-- the term that words show -/
def rdW (ws : List Wd) (wide : Nat) : Option T := match rd .term ((List.range wide).map some) ws with
  | some (t, []) => some t
  | _ => none
theorem law_ends (ws : List Wd) (wide : Nat) : ∃ n, Ends n ⟨(List.range wide).map some, [], [], [.term, .over], ws⟩ (rdW ws wide) := by
  have d := does _ .term ((List.range wide).map some) ws (Nat.le_refl _) [] [] [.over]
  unfold rdW
  cases e : rd .term ((List.range wide).map some) ws with
  | none =>
    rw [e] at d
    obtain ⟨n, h⟩ := d
    exact ⟨n, h.ends⟩
  | some p =>
    obtain ⟨t, r⟩ := p
    rw [e] at d
    obtain ⟨n, h⟩ := d
    cases r with
    | nil => exact ⟨n + 1, h.ends (.inr ⟨_, rfl, rfl, t, rfl, rfl⟩)⟩
    | cons w r => exact ⟨n + 1, h.ends (.inl ⟨rfl, rfl⟩)⟩
end K83
namespace K83
open PySem PySem.Spec PyProof.Rows L2
/-! ### heaps -/
section
variable {K : PySem.W.Frag} {H H' H0 H1 H2 : Hp} {a b p : Addr} {xs : List V} {o : HO} {v : V} {d : PyData}
theorem same_tup (e : Same H H') (h : SqT K H a xs) : SqT K H' a xs := by
  rcases h with (h | ⟨o, h⟩) | h
  · exact .inl (.inl (e _ _ h))
  · exact .inl (.inr ⟨o, e _ _ h⟩)
  · exact .inr h
theorem same_new (h : H p = none) (o : HO) : Same H (upd H p o) := fun b u q => by rw [upd_ne (ne_of_none q h)]; exact q
/-- an object that is new since H0 is written -/
theorem same_own (e : Same H0 H) (n : H0 p = none) (o : HO) : Same H0 (upd H p o) := fun b u q => by rw [upd_ne (ne_of_none q n)]; exact e b u q
/-! data; lists are tracked -/
mutual
inductive Dt (K : PySem.W.Frag) (H : Hp) : V → PyData → Prop
  | non : Dt K H .non .none
  | bl (b : Bool) : Dt K H (.bl b) (.bool b)
  | int (i : Int) : Dt K H (.int i) (.int i)
  | str (x : Str) : Dt K H (.str x) (.str x)
  | lst {a : Addr} {xs : List V} {ds : List PyData} : H a = some (.lst xs) → DtA K H xs ds → Dt K H (.ref a) (.list ds)
  | tup {a : Addr} {xs : List V} {ds : List PyData} : SqT K H a xs → DtA K H xs ds → Dt K H (.ref a) (.tuple ds)
inductive DtA (K : PySem.W.Frag) (H : Hp) : List V → List PyData → Prop
  | nil : DtA K H [] []
  | cons {v : V} {vs : List V} {d : PyData} {ds : List PyData} : Dt K H v d → DtA K H vs ds → DtA K H (v :: vs) (d :: ds)
end
mutual
theorem Dt.dp : ∀ {v : V} {d : PyData}, Dt K H v d → Dp K H v d
  | _, _, .non => .non
  | _, _, .bl b => .bl b
  | _, _, .int i => .int i
  | _, _, .str x => .str x
  | _, _, .lst h r => .lst (SqL.of h) r.dp
  | _, _, .tup h r => .tup h r.dp
theorem DtA.dp : ∀ {vs : List V} {ds : List PyData}, DtA K H vs ds → DpAll K H vs ds
  | _, _, .nil => .nil
  | _, _, .cons h r => .cons h.dp r.dp
end
mutual
theorem Dt.same (e : Same H H') : ∀ {v : V} {d : PyData}, Dt K H v d → Dt K H' v d
  | _, _, .non => .non
  | _, _, .bl b => .bl b
  | _, _, .int i => .int i
  | _, _, .str x => .str x
  | _, _, .lst h r => .lst (e _ _ h) (r.same e)
  | _, _, .tup h r => .tup (same_tup e h) (r.same e)
theorem DtA.same (e : Same H H') : ∀ {vs : List V} {ds : List PyData}, DtA K H vs ds → DtA K H' vs ds
  | _, _, .nil => .nil
  | _, _, .cons h r => .cons (h.same e) (r.same e)
end
/-- all but what stands at b is as it was -/
def Mo (b : Addr) (H H' : Hp) : Prop := ∀ a o, a ≠ b → H a = some o → H' a = some o
theorem Mo.refl : Mo b H H := fun _ _ _ q => q
theorem Mo.trans (e : Mo b H H1) (f : Mo b H1 H2) : Mo b H H2 := fun a o n q => f a o n (e a o n q)
theorem Mo.of (e : Same H H') : Mo b H H' := fun a o _ q => e a o q
theorem Mo.upd : Mo b H (upd H b o) := fun a u n q => by rw [upd_ne n]; exact q
theorem Mo.own (e : Mo b H0 H) (n : H0 p = none) (o : HO) : Mo b H0 (L2.upd H p o) := fun a u h q => by rw [upd_ne (ne_of_none q n)]; exact e a u h q
/-- all that was is as it was, but for what stands at b, which is new or the one that may change -/
theorem Mo.same (e : Mo b H0 H) (n : H0 b = none) : Same H0 H := fun a o q => e a o (fun z => by rw [z, n] at q; cases q) q
/-- what says that tuples stay -/
def TK (K : PySem.W.Frag) (H H' : Hp) : Prop := ∀ a xs, SqT K H a xs → SqT K H' a xs
theorem TK.of (e : Same H H') : TK K H H' := fun _ _ h => same_tup e h
theorem TK.trans (e : TK K H H1) (f : TK K H1 H2) : TK K H H2 := fun a xs h => f a xs (e a xs h)
def notTup : HO → Bool
  | .tup _ => false
  | .frz _ _ => false
  | _ => true
theorem Mo.tkO {u : HO} (e : Mo b H H') (h : H b = some u) (n : notTup u = true) : TK K H H' := fun a xs q => by
  have no : ∀ w, H a = some w → notTup w = false → a ≠ b := fun w hw hn z => by
    rw [z, h] at hw
    cases hw
    rw [n] at hn
    cases hn
  rcases q with (q | ⟨o, q⟩) | q
  · exact .inl (.inl (e _ _ (no _ q rfl) q))
  · exact .inl (.inr ⟨o, e _ _ (no _ q rfl) q⟩)
  · exact .inr q
theorem Mo.tk {ys : List V} (e : Mo b H H') (h : H b = some (.lst ys)) : TK K H H' := e.tkO h rfl
mutual
def flatT : PyData → Bool
  | .list _ => false
  | .dict _ => false
  | .tuple ds => flatTs ds
  | _ => true
def flatTs : List PyData → Bool
  | [] => true
  | d :: ds => flatT d && flatTs ds
end
mutual
theorem Dt.tk (e : TK K H H') : ∀ {v : V} {d : PyData}, flatT d = true → Dt K H v d → Dt K H' v d
  | _, _, _, .non => .non
  | _, _, _, .bl b => .bl b
  | _, _, _, .int i => .int i
  | _, _, _, .str x => .str x
  | _, _, f, .lst h r => by simp [flatT] at f
  | _, _, f, .tup h r => .tup (e _ _ h) (r.tk e (by simpa [flatT] using f))
theorem DtA.tk (e : TK K H H') : ∀ {vs : List V} {ds : List PyData}, flatTs ds = true → DtA K H vs ds → DtA K H' vs ds
  | _, _, _, .nil => .nil
  | _, _, f, .cons h r => by
    have f' := f
    simp only [flatTs, Bool.and_eq_true] at f'
    exact .cons (h.tk e f'.1) (r.tk e f'.2)
end
/-! ### data -/
theorem DtA.len : ∀ {vs : List V} {ds : List PyData}, DtA K H vs ds → vs.length = ds.length
  | _, _, .nil => rfl
  | _, _, .cons _ r => congrArg Nat.succ r.len
theorem DtA.get : ∀ {vs : List V} {ds : List PyData} {i : Nat} {v : V}, DtA K H vs ds → vs[i]? = some v → ∃ d, ds[i]? = some d ∧ Dt K H v d
  | _, _, _, _, .nil, e => by simp at e
  | _, _, 0, _, .cons h _, e => by simp at e; subst e; exact ⟨_, rfl, h⟩
  | _, _, i + 1, v, .cons _ r, e => by
    obtain ⟨d, h1, h2⟩ := r.get (i := i) (by simpa using e)
    exact ⟨d, by simpa using h1, h2⟩
theorem DtA.at : ∀ {vs : List V} {ds : List PyData} {i : Nat} {d : PyData}, DtA K H vs ds → ds[i]? = some d → ∃ v, vs[i]? = some v ∧ Dt K H v d
  | _, _, _, _, .nil, e => by simp at e
  | _, _, 0, _, .cons h _, e => by simp at e; subst e; exact ⟨_, rfl, h⟩
  | _, _, i + 1, v, .cons _ r, e => by
    obtain ⟨d, h1, h2⟩ := r.at (i := i) (by simpa using e)
    exact ⟨d, by simpa using h1, h2⟩
theorem DtA.app : ∀ {vs vs' : List V} {ds ds' : List PyData}, DtA K H vs ds → DtA K H vs' ds' → DtA K H (vs ++ vs') (ds ++ ds')
  | _, _, _, _, .nil, r => r
  | _, _, _, _, .cons h t, r => .cons h (t.app r)
theorem DtA.map {α : Type} {f : α → V} {g : α → PyData} (h : ∀ x, Dt K H (f x) (g x)) : ∀ l : List α, DtA K H (l.map f) (l.map g)
  | [] => .nil
  | x :: r => .cons (h x) (DtA.map h r)
theorem DtA.drop : ∀ {vs : List V} {ds : List PyData} (n : Nat), DtA K H vs ds → DtA K H (vs.drop n) (ds.drop n)
  | _, _, 0, h => h
  | _, _, _ + 1, .nil => .nil
  | _, _, n + 1, .cons _ r => r.drop n
theorem DtA.take : ∀ {vs : List V} {ds : List PyData} (n : Nat), DtA K H vs ds → DtA K H (vs.take n) (ds.take n)
  | _, _, 0, h => .nil
  | _, _, _ + 1, .nil => .nil
  | _, _, n + 1, .cons h r => .cons h (r.take n)
theorem DtA.rev {vs : List V} {ds : List PyData} (h : DtA K H vs ds) : DtA K H vs.reverse ds.reverse := by
  induction h using DtA.rec (motive_1 := fun _ _ _ => True) with
  | nil => exact .nil
  | cons h r _ ih =>
    rw [List.reverse_cons, List.reverse_cons]
    exact ih.app (.cons h .nil)
  | _ => trivial
theorem DtA.set {v : V} {d : PyData} (h : Dt K H v d) : ∀ {vs : List V} {ds : List PyData} (k : Nat), DtA K H vs ds → DtA K H (vs.set k v) (ds.set k d)
  | _, _, _, .nil => .nil
  | _, _, 0, .cons _ r => .cons h r
  | _, _, k + 1, .cons q r => .cons q (DtA.set h k r)
theorem DtA.one {v : V} {d : PyData} (h : Dt K H v d) : DtA K H [v] [d] := .cons h .nil
theorem DtA.eq_nil {vs : List V} (h : DtA K H vs []) : vs = [] := by cases h; rfl
end
/-! ### words as data -/
abbrev S (l : List Nat) : Str := SX.S l
def wD (w : Wd) : PyData := .str (S w)
def wV (w : Wd) : V := .str (S w)
def wsD (ws : List Wd) : List PyData := ws.map wD
def aD : Option Nat → PyData
  | none => .none
  | some n => .int n
def aV : Option Nat → V
  | none => .non
  | some n => .int n
section
variable {K : PySem.W.Frag} {H : Hp} {v : V} {vs : List V} {d : PyData}
theorem Dt.ws_eq : ∀ {vs : List V} {ws : List Wd}, DtA K H vs (wsD ws) → vs = ws.map wV
  | _, [], h => by cases h; rfl
  | _, w :: ws, h => by
    cases h with
    | cons h1 h2 =>
      cases h1
      rw [Dt.ws_eq h2]
      rfl
theorem Dt.ar_eq : ∀ {vs : List V} {ar : Ar}, DtA K H vs (ar.map aD) → vs = ar.map aV
  | _, [], h => by cases h; rfl
  | _, none :: ws, h => by
    cases h with
    | cons h1 h2 =>
      cases h1
      rw [Dt.ar_eq h2]
      rfl
  | _, some n :: ws, h => by
    cases h with
    | cons h1 h2 =>
      cases h1
      rw [Dt.ar_eq h2]
      rfl
theorem dt_w (w : Wd) : Dt K H (wV w) (wD w) := .str _
theorem dt_a (o : Option Nat) : Dt K H (aV o) (aD o) := by cases o; exact .non; exact .int _
theorem dt_ws (ws : List Wd) : DtA K H (ws.map wV) (wsD ws) := DtA.map dt_w ws
theorem dt_ar (ws : Ar) : DtA K H (ws.map aV) (ws.map aD) := DtA.map dt_a ws
end
theorem S_eq {a b : List Nat} : (S a = S b) ↔ a = b := ⟨SX.S_inj, fun e => by rw [e]⟩
theorem S_length (a : List Nat) : (S a).length = a.length := SX.S_len a
theorem wV_eq {a b : Wd} : (wV a = wV b) ↔ a = b := ⟨fun e => SX.S_inj (V.str.inj e), fun e => by rw [e]⟩
theorem wV_dec (a b : Wd) : decide (wV a = wV b) = decide (a = b) := by simp [wV_eq]
theorem int_ne {i j : Int} (h : i ≠ j) : ¬ (V.int i = V.int j) := fun e => h (V.int.inj e)
theorem len_small {n : Nat} (h : n ≤ 100000) : n ≤ sizeLine := Nat.le_trans h (by decide)
theorem len_lt {n : Nat} (h : n ≤ 100000) : n < sizeLine := Nat.lt_of_le_of_lt h (by decide)
/-! ### types of values -/
def isB (n c : String) : Bool := n == c || (n == "bool" && c == "int")
def tyNames : List String := ["NoneType", "bool", "int", "str", "list", "tuple", "dict"]
def clNames : List String := ["bool", "int", "str", "list", "tuple", "dict"]
theorem kit_all : ∀ n ∈ tyNames, ∀ c ∈ clNames, kitB n c = some (isB n c) := by decide +kernel
def tyD : PyData → String
  | .none => "NoneType"
  | .bool _ => "bool"
  | .int _ => "int"
  | .str _ => "str"
  | .list _ => "list"
  | .tuple _ => "tuple"
  | .dict _ => "dict"
theorem ty_in (d : PyData) : tyD d ∈ tyNames := by cases d <;> simp [tyD, tyNames]
section
variable {K : PySem.W.Frag} {H H' : Hp} {v : V} {d : PyData} {a : Addr} {xs : List V}
theorem tyx_tup (h : SqT K H a xs) : TyX K H (.ref a) (.type "tuple") := by
  rcases h with (h | ⟨o, h⟩) | ⟨o, _, _, h, c, _⟩
  · exact .base (.tup h)
  · exact .fTuple h
  · exact .kTuple h c
theorem tyx_dt (h : Dt K H v d) : TyX K H v (.type (tyD d)) := by
  cases h with
  | non => exact .base .non
  | bl b => exact .base (.bl b)
  | int i => exact .base (.int i)
  | str x => exact .base (.str x)
  | lst h _ => exact .base (.lst h)
  | tup h _ => exact tyx_tup h
theorem kit_d (K : PySem.W.Frag) (d : PyData) {c : String} (hc : c ∈ clNames) : PySem.W.kitOne K (.type (tyD d)) (.type c) = some (isB (tyD d) c) := kit_ty (kit_all _ (ty_in d) c hc)
end
end K83
namespace K83
open PySem PySem.Spec PyProof.Rows L2
/-! ### readings by data -/
section
variable {K : PySem.W.Frag} {σ : L2.St} {H H' : Hp} {t u ta tb tc : TE} {tt tu : TT} {r r' : R2} {d da db dc : PyData} {ds es : List PyData}
/-- t gives the data d, whatever is new -/
def Es (K : PySem.W.Frag) (t : TE) (σ : L2.St) (H : Hp) (d : PyData) : Prop := ∀ H1, Same H H1 → ∀ Q : VK, (∀ v H2, Same H1 H2 → Dt K H2 v d → Q v H2) → t σ H1 Q
def EsT (t : TT) (σ : L2.St) (H : Hp) (b : Bool) : Prop := ∀ H1, Same H H1 → ∀ Q : Bool → Hp → Prop, (∀ H2, Same H1 H2 → Q b H2) → t σ H1 Q
def EsA (K : PySem.W.Frag) (t : TA) (σ : L2.St) (H : Hp) (ds : List PyData) : Prop := ∀ H1, Same H H1 → ∀ Q : List V → Hp → Prop, (∀ vs H2, Same H1 H2 → DtA K H2 vs ds → Q vs H2) → t σ H1 Q
def EsO (t : TO) (σ : L2.St) (H : Hp) (o : Option Int) : Prop := ∀ H1, Same H H1 → ∀ Q : Option Int → Hp → Prop, (∀ H2, Same H1 H2 → Q o H2) → t σ H1 Q
/-- what is wanted behind data -/
abbrev Af (K : PySem.W.Frag) (H : Hp) (d : PyData) (Q : VK) : Prop := ∀ v H2, Same H H2 → Dt K H2 v d → Q v H2
theorem Es.mono (h : Es K t σ H d) (e : Same H H') : Es K t σ H' d := fun H1 e1 => h H1 (e.trans e1)
theorem Es.at (h : Es K t σ H d) {Q : VK} (q : Af K H d Q) : t σ H Q := h H (Same.refl H) Q q
theorem EsT.at {b : Bool} (h : EsT tt σ H b) {Q : Bool → Hp → Prop} (q : ∀ H2, Same H H2 → Q b H2) : tt σ H Q := h H (Same.refl H) Q q
theorem EsA.at {t : TA} (h : EsA K t σ H ds) {Q : List V → Hp → Prop} (q : ∀ vs H2, Same H H2 → DtA K H2 vs ds → Q vs H2) : t σ H Q := h H (Same.refl H) Q q
theorem Es.eq (h : Es K t σ H d) (e : d = da) : Es K t σ H da := e ▸ h
theorem EsT.eq {a b : Bool} (h : EsT tt σ H a) (e : a = b) : EsT tt σ H b := e ▸ h
theorem es_var {i : Nat} {v : V} (hs : σ[i]? = some (some v)) (h : Dt K H v d) : Es K (tVar i) σ H d := fun H1 e Q q => ⟨v, hs, q v H1 (Same.refl H1) (h.same e)⟩
theorem es_w {x : Str} (w : Wd) (h : x = S w := by decide +kernel) : Es K (tC (.str x)) σ H (wD w) := fun H1 e Q q => q _ H1 (Same.refl H1) (by rw [h]; exact .str _)
theorem es_str {x : Str} : Es K (tC (.str x)) σ H (.str x) := fun H1 e Q q => q _ H1 (Same.refl H1) (.str _)
theorem es_int {i : Int} : Es K (tC (.int i)) σ H (.int i) := fun H1 e Q q => q _ H1 (Same.refl H1) (.int _)
theorem es_bl {b : Bool} : Es K (tC (.bl b)) σ H (.bool b) := fun H1 e Q q => q _ H1 (Same.refl H1) (.bl _)
theorem es_non : Es K (tC .non) σ H .none := fun H1 e Q q => q _ H1 (Same.refl H1) .non
theorem es_ref {a : Addr} (h : ∀ H, Dt K H (.ref a) d) : Es K (tC (.ref a)) σ H d := fun H1 e Q q => q _ H1 (Same.refl H1) (h _)
/-! operators -/
def OpD (K : PySem.W.Frag) (r : R2) (da db d : PyData) : Prop := ∀ H x y, Dt K H x da → Dt K H y db → ∀ Q : VK, Af K H d Q → r x y H Q
theorem es_op (o : OpD K r da db d) (ha : Es K ta σ H da) (hb : Es K tb σ H db) : Es K (tOp r ta tb) σ H d := fun H1 e1 Q q =>
  ha H1 e1 _ fun x H2 e2 hx => hb H2 (e1.trans e2) _ fun y H3 e3 hy => o H3 x y (hx.same e3) hy Q fun v H4 e4 hv => q v H4 ((e2.trans e3).trans e4) hv
theorem od_add {i j : Int} : OpD K (rI0 fun i j => .int (i + j)) (.int i) (.int j) (.int (i + j)) := fun H x y hx hy Q q => by
  cases hx; cases hy
  exact ⟨_, _, rfl, rfl, q _ _ (Same.refl H) (.int _)⟩
theorem od_sub {i j : Int} : OpD K (rI0 fun i j => .int (i - j)) (.int i) (.int j) (.int (i - j)) := fun H x y hx hy Q q => by
  cases hx; cases hy
  exact ⟨_, _, rfl, rfl, q _ _ (Same.refl H) (.int _)⟩
theorem od_rI {C : Int → Int → Prop} {g : Int → Int → Int} {i j : Int} (c : C i j) : OpD K (rI C fun i j => .int (g i j)) (.int i) (.int j) (.int (g i j)) := fun H x y hx hy Q q => by
  cases hx; cases hy
  exact ⟨_, _, rfl, rfl, c, q _ _ (Same.refl H) (.int _)⟩
theorem od_cmp {p : Int → Int → Bool} {i j : Int} : OpD K (rI0 fun i j => .bl (p i j)) (.int i) (.int j) (.bool (p i j)) := fun H x y hx hy Q q => by
  cases hx; cases hy
  exact ⟨_, _, rfl, rfl, q _ _ (Same.refl H) (.bl _)⟩
theorem od_eqW {a b : Wd} : OpD K rEq (wD a) (wD b) (.bool (decide (a = b))) := fun H x y hx hy Q q => by
  cases hx; cases hy
  exact ⟨rfl, q _ _ (Same.refl H) (by show Dt K H (.bl (decide (wV a = wV b))) _; rw [wV_dec]; exact .bl _)⟩
theorem od_neW {a b : Wd} : OpD K rNe (wD a) (wD b) (.bool (!decide (a = b))) := fun H x y hx hy Q q => by
  cases hx; cases hy
  exact ⟨rfl, q _ _ (Same.refl H) (by show Dt K H (.bl (!decide (wV a = wV b))) _; rw [wV_dec]; exact .bl _)⟩
theorem od_eqI {i j : Int} : OpD K rEq (.int i) (.int j) (.bool (decide (i = j))) := fun H x y hx hy Q q => by
  cases hx; cases hy
  refine ⟨rfl, q _ _ (Same.refl H) ?_⟩
  have e : decide (V.int i = V.int j) = decide (i = j) := by simp
  rw [e]; exact .bl _
theorem od_neI {i j : Int} : OpD K rNe (.int i) (.int j) (.bool (!decide (i = j))) := fun H x y hx hy Q q => by
  cases hx; cases hy
  refine ⟨rfl, q _ _ (Same.refl H) ?_⟩
  have e : decide (V.int i = V.int j) = decide (i = j) := by simp
  rw [e]; exact .bl _
def isNoneD : PyData → Bool
  | .none => true
  | _ => false
def rIsN : R2 := fun x y H Q => y = .non ∧ Q (.bl (decide (x = .non))) H
def rNotN : R2 := fun x y H Q => y = .non ∧ Q (.bl (!decide (x = .non))) H
theorem op_isK {X : Cx} : OpR X (compareOp .Is) rIsN := op_isN
theorem op_isNotK {X : Cx} : OpR X (compareOp .IsNot) rNotN := op_notN
theorem dt_isNone {v : V} (h : Dt K H v d) : decide (v = .non) = isNoneD d := by cases h <;> simp [isNoneD]
theorem od_isN : OpD K rIsN d .none (.bool (isNoneD d)) := fun H x y hx hy Q q => by
  cases hy
  exact ⟨rfl, q _ _ (Same.refl H) (by rw [dt_isNone hx]; exact .bl _)⟩
theorem od_notN : OpD K rNotN d .none (.bool (!isNoneD d)) := fun H x y hx hy Q q => by
  cases hy
  exact ⟨rfl, q _ _ (Same.refl H) (by rw [dt_isNone hx]; exact .bl _)⟩
theorem inV_ws (w : Wd) : ∀ ws : List Wd, inV (wV w) (ws.map wV) = ws.contains w
  | [] => rfl
  | a :: ws => by
    have h := inV_ws w ws
    unfold inV at h ⊢
    rw [List.map_cons, List.any_cons, h, List.contains_cons]
    congr 1
    show ((S a) == (S w)) = (w == a)
    by_cases e : a = w
    · subst e; simp
    · have : S a ≠ S w := fun z => e (SX.S_inj z)
      rw [beq_eq_false_iff_ne.mpr this, beq_eq_false_iff_ne.mpr (fun z => e z.symm)]
theorem flat_ws (ws : List Wd) : (ws.map wV).all flatV = true := by
  rw [List.all_eq_true]
  intro v hv
  obtain ⟨w, _, rfl⟩ := List.mem_map.mp hv
  rfl
theorem flat_ar (ar : Ar) : (ar.map aV).all flatV = true := by
  rw [List.all_eq_true]
  intro v hv
  obtain ⟨w, _, rfl⟩ := List.mem_map.mp hv
  cases w <;> rfl
theorem inV_ar (n : Nat) : ∀ ar : Ar, inV (.int n) (ar.map aV) = decide (some n ∈ ar)
  | [] => rfl
  | a :: ws => by
    have h := inV_ar n ws
    unfold inV at h ⊢
    rw [List.map_cons, List.any_cons, h]
    cases a with
    | none => simp [eqV, aV]
    | some m =>
      show (((m : Int) == (n : Int)) || _) = _
      by_cases e : m = n
      · subst e; simp
      · have e1 : ((m : Int) == (n : Int)) = false := by simp; omega
        have e2 : some n ∉ ws ↔ some n ∉ some m :: ws := by simp; omega
        rw [e1]
        have e3 : ¬ n = m := fun z => e z.symm
        by_cases q : some n ∈ ws
        · simp [q]
        · simp [q, e3]
theorem od_in {w : Wd} {ws : List Wd} : OpD K (rIn K false) (wD w) (.list (wsD ws)) (.bool (ws.contains w)) := fun H x y hx hy Q q => by
  cases hx
  cases hy with
  | lst h r =>
    have e := Dt.ws_eq r
    subst e
    exact ⟨_, _, rfl, .inl (SqL.of h), rfl, flat_ws ws, q _ _ (Same.refl H) (by show Dt K H (.bl (inV (wV w) (ws.map wV))) _; rw [inV_ws]; exact .bl _)⟩
theorem od_notIn {w : Wd} {ws : List Wd} : OpD K (rIn K true) (wD w) (.list (wsD ws)) (.bool (!ws.contains w)) := fun H x y hx hy Q q => by
  cases hx
  cases hy with
  | lst h r =>
    have e := Dt.ws_eq r
    subst e
    exact ⟨_, _, rfl, .inl (SqL.of h), rfl, flat_ws ws, q _ _ (Same.refl H) (by show Dt K H (.bl (!inV (wV w) (ws.map wV))) _; rw [inV_ws]; exact .bl _)⟩
theorem od_inT {w : Wd} {ws : List Wd} : OpD K (rIn K false) (wD w) (.tuple (wsD ws)) (.bool (ws.contains w)) := fun H x y hx hy Q q => by
  cases hx
  cases hy with
  | tup h r =>
    have e := Dt.ws_eq r
    subst e
    exact ⟨_, _, rfl, .inr h, rfl, flat_ws ws, q _ _ (Same.refl H) (by show Dt K H (.bl (inV (wV w) (ws.map wV))) _; rw [inV_ws]; exact .bl _)⟩
theorem od_notInAr {n : Nat} {ar : Ar} : OpD K (rIn K true) (.int n) (.list (ar.map aD)) (.bool (!decide (some n ∈ ar))) := fun H x y hx hy Q q => by
  cases hx
  cases hy with
  | lst h r =>
    have e := Dt.ar_eq r
    subst e
    exact ⟨_, _, rfl, .inl (SqL.of h), rfl, flat_ar ar, q _ _ (Same.refl H) (by show Dt K H (.bl (!inV (.int n) (ar.map aV))) _; rw [inV_ar]; exact .bl _)⟩
def rInS : R2 := fun x y H Q => ∃ (c : Nat) (z : Str), x = .str ⟨#[c]⟩ ∧ y = .str z ∧ Q (.bl (decide (c ∈ z.cps.toList))) H
def rNotInS : R2 := fun x y H Q => ∃ (c : Nat) (z : Str), x = .str ⟨#[c]⟩ ∧ y = .str z ∧ Q (.bl (!decide (c ∈ z.cps.toList))) H
theorem op_inS {X : Cx} : OpR X (compareOp .In) rInS := op_in_sign
theorem op_notInS {X : Cx} : OpR X (compareOp .NotIn) rNotInS := op_notIn_sign
theorem od_inS {c : Nat} {w : Wd} : OpD K rInS (wD [c]) (wD w) (.bool (decide (c ∈ w))) := fun H x y hx hy Q q => by
  cases hx; cases hy
  exact ⟨c, _, rfl, rfl, q _ _ (Same.refl H) (.bl _)⟩
theorem od_notInS {c : Nat} {w : Wd} : OpD K rNotInS (wD [c]) (wD w) (.bool (!decide (c ∈ w))) := fun H x y hx hy Q q => by
  cases hx; cases hy
  exact ⟨c, _, rfl, rfl, q _ _ (Same.refl H) (.bl _)⟩
def rAddS : R2 := fun x y H Q => ∃ i j, x = .str i ∧ y = .str j ∧ i.length + j.length ≤ sizeLine ∧ Q (.str (i ++ j)) H
theorem op_addS {X : Cx} : OpR X (binaryOp .Add) rAddS := op_add_str
theorem od_addS {a b : Wd} (h : a.length + b.length ≤ 100000) : OpD K rAddS (wD a) (wD b) (wD (a ++ b)) := fun H x y hx hy Q q => by
  cases hx; cases hy
  refine ⟨_, _, rfl, rfl, by rw [S_length, S_length]; exact len_small h, q _ _ (Same.refl H) ?_⟩
  rw [SX.S_cat]
  exact .str _
/-- lists put together -/
theorem od_cat (h : ds.length + es.length ≤ 100000) : OpD K rCat (.list ds) (.list es) (.list (ds ++ es)) := fun H x y hx hy Q q => by
  cases hx with
  | lst h1 r1 =>
    cases hy with
    | lst h2 r2 =>
      refine ⟨_, _, _, _, rfl, rfl, h1, h2, by rw [r1.len, r2.len]; exact len_small h, fun p hp => q _ _ (same_new hp _) (.lst upd_same ?_)⟩
      exact (r1.app r2).same (same_new hp _)
theorem op_catK {X : Cx} {K : PySem.W.Frag} (hK : X.K = K := by rfl) : OpR X (binaryOp .Add) (rCatA K) := by
  subst hK
  exact op_catA
theorem od_catT (h : ds.length + es.length ≤ 100000) : OpD K (rCatA K) (.tuple ds) (.tuple es) (.tuple (ds ++ es)) := fun H x y hx hy Q q => by
  cases hx with
  | @tup a xs _ h1 r1 =>
    cases hy with
    | @tup b ys _ h2 r2 =>
      refine ⟨_, _, _, _, rfl, rfl, h1, h2, by rw [r1.len, r2.len]; exact len_small h, fun e => ?_, fun _ e => ?_, fun _ _ p hp => q _ _ (same_new hp _) (.tup (SqT.of upd_same) ((r1.app r2).same (same_new hp _)))⟩
      · subst e
        cases r1
        exact q _ _ (Same.refl H) (.tup h2 r2)
      · subst e
        cases r2
        rw [List.append_nil] at q
        exact q _ _ (Same.refl H) (.tup h1 r1)
/-! items -/
theorem ix_listK {X : Cx} {K : PySem.W.Frag} (hK : X.K = K := by rfl) : IxR X (rIxL K) := by
  subst hK
  exact ix_list
theorem ix_tupK {X : Cx} {K : PySem.W.Frag} (hK : X.K = K := by rfl) : IxR X (rIxT K) := by
  subst hK
  exact ix_tup
theorem op_inK {X : Cx} {K : PySem.W.Frag} (hK : X.K = K := by rfl) : OpR X (compareOp .In) (rIn K false) := by
  subst hK
  exact op_in_seq
theorem op_notInK {X : Cx} {K : PySem.W.Frag} (hK : X.K = K := by rfl) : OpR X (compareOp .NotIn) (rIn K true) := by
  subst hK
  exact op_notIn_seq
theorem DtA.atI {xs : List V} {i : Int} (h : DtA K H xs ds) (e : atI ds i = some d) : ∃ v, L2.atI xs i = some v ∧ Dt K H v d := by
  unfold L2.atI at e ⊢
  rw [h.len]
  cases q : ixN ds.length i with
  | none => rw [q] at e; cases e
  | some j =>
    rw [q] at e
    exact h.at e
theorem od_ixL {i : Int} (e : atI ds i = some d) : OpD K (rIxL K) (.list ds) (.int i) d := fun H x y hx hy Q q => by
  cases hy
  cases hx with
  | lst h r =>
    obtain ⟨v, h1, h2⟩ := r.atI e
    exact ⟨_, _, _, v, rfl, rfl, SqL.of h, h1, q _ _ (Same.refl H) h2⟩
theorem od_ixT {i : Int} (e : atI ds i = some d) : OpD K (rIxT K) (.tuple ds) (.int i) d := fun H x y hx hy Q q => by
  cases hy
  cases hx with
  | tup h r =>
    obtain ⟨v, h1, h2⟩ := r.atI e
    exact ⟨_, _, _, v, rfl, rfl, h, h1, q _ _ (Same.refl H) h2⟩
theorem od_ixS {w : Wd} {i : Int} {c : Nat} (hl : w.length ≤ 100000) (e : atI w i = some c) : OpD K rIxS (wD w) (.int i) (wD [c]) := fun H x y hx hy Q q => by
  cases hx; cases hy
  exact ⟨_, _, c, rfl, rfl, by rw [S_length]; exact len_small hl, e, q _ _ (Same.refl H) (.str _)⟩
theorem atI_n {α : Type} {xs : List α} {j : Nat} {x : α} (h : xs[j]? = some x) : atI xs (j : Int) = some x := atI_nat h
theorem atI_0 {α : Type} {x : α} {xs : List α} : atI (x :: xs) 0 = some x := atI_nat (j := 0) rfl
theorem atI_m1 {α : Type} {xs : List α} {x : α} (h : xs.getLast? = some x) : atI xs (-1) = some x := by
  unfold atI ixN
  have hl : xs.length ≠ 0 := fun e => by rw [List.eq_nil_of_length_eq_zero e] at h; cases h
  rw [if_neg (by omega), if_pos (by omega)]
  rw [List.getLast?_eq_getElem?] at h
  simp only [Option.bind_some]
  rw [show ((-1 : Int) + (xs.length : Int)).toNat = xs.length - 1 by omega]
  exact h
/-! slices -/
def SlD (K : PySem.W.Frag) (r : V → Option Int → Option Int → Hp → VK → Prop) (da : PyData) (lo hi : Option Int) (d : PyData) : Prop := ∀ H x, Dt K H x da → ∀ Q : VK, Af K H d Q → r x lo hi H Q
theorem es_sl {r : V → Option Int → Option Int → Hp → VK → Prop} {tl th : TO} {lo hi : Option Int} (o : SlD K r da lo hi d) (ha : Es K ta σ H da) (hl : EsO tl σ H lo) (hh : EsO th σ H hi) : Es K (tSl r ta tl th) σ H d := fun H1 e1 Q q =>
  ha H1 e1 _ fun x H2 e2 hx => hl H2 (e1.trans e2) _ fun H3 e3 => hh H3 ((e1.trans e2).trans e3) _ fun H4 e4 => o H4 x (hx.same (e3.trans e4)) Q fun v H5 e5 hv => q v H5 (((e2.trans e3).trans e4).trans e5) hv
theorem eso_no : EsO tNoPart σ H none := fun H1 _ Q q => q H1 (Same.refl H1)
theorem eso_some {i : Int} (h : Es K ta σ H (.int i)) : EsO (tPart ta) σ H (some i) := fun H1 e1 Q q => h H1 e1 _ fun v H2 e2 hv => by
  cases hv
  exact ⟨i, rfl, q H2 e2⟩
theorem eso_int {i : Int} : EsO (tPart (tC (.int i))) σ H (some i) := fun H1 _ Q q => ⟨i, rfl, q H1 (Same.refl H1)⟩
/-- a part of a list of data, as Python cuts -/
def cutD (xs : List PyData) (lo hi : Option Int) : List PyData := (xs.drop (HT.sIx xs.length 0 lo)).take (HT.sIx xs.length xs.length hi - HT.sIx xs.length 0 lo)
theorem DtA.cut {xs : List V} (h : DtA K H xs ds) (lo hi : Option Int) : DtA K H (cutV xs lo hi) (cutD ds lo hi) := by
  unfold cutV cutD
  rw [h.len]
  exact (h.drop _).take _
theorem sl_listK {X : Cx} {K : PySem.W.Frag} (hK : X.K = K := by rfl) : SlR X (rSlL K) := by
  subst hK
  exact sl_list
theorem sl_tupK {X : Cx} {K : PySem.W.Frag} (hK : X.K = K := by rfl) : SlR X (rSlA K) := by
  subst hK
  exact sl_tupA
theorem sd_list {lo hi : Option Int} : SlD K (rSlL K) (.list ds) lo hi (.list (cutD ds lo hi)) := fun H x hx Q q => by
  cases hx with
  | lst h r => exact ⟨_, _, rfl, SqL.of h, fun p hp => q _ _ (same_new hp _) (.lst upd_same ((r.cut lo hi).same (same_new hp _)))⟩
theorem sd_tup {lo hi : Option Int} : SlD K (rSlA K) (.tuple ds) lo hi (.tuple (cutD ds lo hi)) := fun H x hx Q q => by
  cases hx with
  | @tup a xs _ h r =>
    refine ⟨_, _, rfl, h, fun e => q _ _ (Same.refl H) ?_, fun _ p hp => q _ _ (same_new hp _) (.tup (SqT.of upd_same) ((r.cut lo hi).same (same_new hp _)))⟩
    have : cutD ds lo hi = ds := by
      unfold cutD
      rw [← r.len, e.1, e.2]
      simp [r.len]
    rw [this]
    exact .tup h r
theorem sd_txt {w u : Wd} {lo hi : Option Int} (hl : w.length ≤ 100000) (h : Txt.slice (S w) lo hi = S u) : SlD K C8.rSlX (wD w) lo hi (wD u) := fun H x hx Q q => by
  cases hx
  exact ⟨_, rfl, by rw [S_length]; exact len_small hl, q _ _ (Same.refl H) (by rw [h]; exact .str _)⟩
theorem sIx_le (n k : Nat) : HT.sIx n 0 (some (k : Int)) = min k n ∧ HT.sIx n n (some (k : Int)) = min k n := by rw [HT.sIx_nat, HT.sIx_nat]; exact ⟨rfl, rfl⟩
theorem cut_from (xs : List PyData) (k : Nat) : cutD xs (some (k : Int)) none = xs.drop k := by
  unfold cutD
  rw [HT.sIx_nat, HT.sIx_none]
  by_cases h : k ≤ xs.length
  · rw [Nat.min_eq_left h, List.take_of_length_le (by rw [List.length_drop]; omega)]
  · rw [Nat.min_eq_right (by omega), List.drop_of_length_le (by omega), List.drop_of_length_le (by omega)]
    simp
theorem cut_to (xs : List PyData) (k : Nat) : cutD xs none (some (k : Int)) = xs.take k := by
  unfold cutD
  rw [HT.sIx_nat, HT.sIx_none, List.drop_zero, Nat.sub_zero]
  by_cases h : k ≤ xs.length
  · rw [Nat.min_eq_left h]
  · rw [Nat.min_eq_right (by omega), List.take_of_length_le (by omega), List.take_of_length_le (by omega)]
theorem cut_mid (xs : List PyData) (i k : Nat) : cutD xs (some (i : Int)) (some (k : Int)) = (xs.take k).drop i := by
  unfold cutD
  rw [HT.sIx_nat, HT.sIx_nat]
  apply List.ext_getElem?
  intro j
  simp only [List.getElem?_take, List.getElem?_drop]
  by_cases h1 : j < min k xs.length - min i xs.length
  · rw [if_pos h1, if_pos (by omega), Nat.min_eq_left (by omega)]
  · rw [if_neg h1]
    by_cases h2 : i + j < k
    · rw [if_pos h2, List.getElem?_eq_none (by omega)]
    · rw [if_neg h2]
/-! tests -/
theorem est_op {b : Bool} (h : Es K t σ H (.bool b)) : EsT (tTest t) σ H b := fun H1 e1 Q q => h H1 e1 _ fun v H2 e2 hv => by
  cases hv
  exact ⟨b, rfl, q H2 e2⟩
theorem est_val {b : Bool} (h : Es K t σ H (.bool b)) : EsT (tB t) σ H b := fun H1 e1 Q q => h H1 e1 _ fun v H2 e2 hv => by
  cases hv
  exact ⟨b, rfl, q H2 e2⟩
theorem est_not {b : Bool} (h : EsT tt σ H b) : EsT (tNot tt) σ H (!b) := fun H1 e1 Q q => h H1 e1 _ fun H2 e2 => q H2 e2
theorem est_and {a b : Bool} (h : EsT tt σ H a) (g : a = true → EsT tu σ H b) : EsT (tAnd tt tu) σ H (a && b) := fun H1 e1 Q q => h H1 e1 _ fun H2 e2 => by
  cases a with
  | true => exact iteT (g rfl H2 (e1.trans e2) _ fun H3 e3 => q H3 (e2.trans e3))
  | false => exact iteF (q H2 e2)
theorem est_or {a b : Bool} (h : EsT tt σ H a) (g : a = false → EsT tu σ H b) : EsT (tOr tt tu) σ H (a || b) := fun H1 e1 Q q => h H1 e1 _ fun H2 e2 => by
  cases a with
  | true => exact iteT (q H2 e2)
  | false => exact iteF (g rfl H2 (e1.trans e2) _ fun H3 e3 => q H3 (e2.trans e3))
theorem es_and {a b : Bool} (h : Es K ta σ H (.bool a)) (g : a = true → Es K tb σ H (.bool b)) : Es K (tAndV ta tb) σ H (.bool (a && b)) := fun H1 e1 Q q => h H1 e1 _ fun v H2 e2 hv => by
  cases hv
  cases a with
  | true => exact ⟨_, rfl, iteT (g rfl H2 (e1.trans e2) _ fun v H3 e3 hv => q v H3 (e2.trans e3) hv)⟩
  | false => exact ⟨_, rfl, iteF (q _ H2 e2 (.bl _))⟩
theorem es_or {a b : Bool} (h : Es K ta σ H (.bool a)) (g : a = false → Es K tb σ H (.bool b)) : Es K (tOrV ta tb) σ H (.bool (a || b)) := fun H1 e1 Q q => h H1 e1 _ fun v H2 e2 hv => by
  cases hv
  cases a with
  | true => exact ⟨_, rfl, iteT (q _ H2 e2 (.bl _))⟩
  | false => exact ⟨_, rfl, iteF (g rfl H2 (e1.trans e2) _ fun v H3 e3 hv => q v H3 (e2.trans e3) hv)⟩
theorem es_not {a : Bool} (h : Es K ta σ H (.bool a)) : Es K (tNotV ta) σ H (.bool (!a)) := fun H1 e1 Q q => h H1 e1 _ fun v H2 e2 hv => by
  cases hv
  exact ⟨_, rfl, q _ H2 e2 (.bl _)⟩
theorem es_if {c : Bool} (h : EsT tt σ H c) (g1 : c = true → Es K ta σ H d) (g2 : c = false → Es K tb σ H d) : Es K (tIf tt ta tb) σ H d := fun H1 e1 Q q => h H1 e1 _ fun H2 e2 => by
  cases c with
  | true => exact iteT (g1 rfl H2 (e1.trans e2) _ fun v H3 e3 hv => q v H3 (e2.trans e3) hv)
  | false => exact iteF (g2 rfl H2 (e1.trans e2) _ fun v H3 e3 hv => q v H3 (e2.trans e3) hv)
theorem es_chain {i j : Bool} (o : OpD K r da db (.bool i)) (o' : OpD K r' db dc (.bool j)) (ha : Es K ta σ H da) (hb : Es K tb σ H db) (hc : Es K tc σ H dc) : Es K (tChain r r' ta tb tc) σ H (.bool (i && j)) := fun H1 e1 Q q =>
  ha H1 e1 _ fun x H2 e2 hx => hb H2 (e1.trans e2) _ fun y H3 e3 hy => o H3 x y (hx.same e3) hy _ fun v H4 e4 hv => by
    cases hv
    refine ⟨_, rfl, ?_⟩
    cases i with
    | true => exact iteT (hc H4 (((e1.trans e2).trans e3).trans e4) _ fun z H5 e5 hz => o' H5 y z (hy.same (e4.trans e5)) hz Q fun v H6 e6 hv => q v H6 ((((e2.trans e3).trans e4).trans e5).trans e6) hv)
    | false => exact iteF (q _ H4 ((e2.trans e3).trans e4) (.bl _))
/-! displays, calls -/
theorem esa_nil : EsA K tNil σ H [] := fun H1 _ Q q => q [] H1 (Same.refl H1) .nil
theorem esa_cons {tr : TA} (ha : Es K ta σ H d) (hr : EsA K tr σ H ds) : EsA K (tCons ta tr) σ H (d :: ds) := fun H1 e1 Q q =>
  ha H1 e1 _ fun x H2 e2 hx => hr H2 (e1.trans e2) _ fun xs H3 e3 hxs => q _ H3 (e2.trans e3) (.cons (hx.same e3) hxs)
theorem es_tup {tr : TA} (h : EsA K tr σ H ds) (hl : ds.length ≤ 100000 := by first | decide | simp) : Es K (tTup tr) σ H (.tuple ds) := fun H1 e1 Q q =>
  h H1 e1 _ fun xs H2 e2 hx => ⟨by rw [hx.len]; exact len_small hl, fun p hp => q _ _ (e2.trans (same_new hp _)) (.tup (SqT.of upd_same) (hx.same (same_new hp _)))⟩
theorem es_lst {tr : TA} (h : EsA K tr σ H ds) (hl : ds.length ≤ 100000 := by first | decide | simp) : Es K (tLst tr) σ H (.list ds) := fun H1 e1 Q q =>
  h H1 e1 _ fun xs H2 e2 hx => ⟨by rw [hx.len]; exact len_small hl, fun p hp => q _ _ (e2.trans (same_new hp _)) (.lst upd_same (hx.same (same_new hp _)))⟩
/-- a promise over data: R of the arguments and what is returned -/
def spD (K : PySem.W.Frag) (R : List PyData → PyData → Prop) : Sp := fun vs H Q _ => ∃ ds d, DtA K H vs ds ∧ R ds d ∧ Af K H d Q
theorem es_call {R : List PyData → PyData → Prop} {E : XK} {tr : TA} {dvs : List V} {dds : List PyData} (hd : ∀ H, DtA K H dvs dds) (h : EsA K tr σ H ds) (hR : R (ds ++ dds) d) : Es K (tCall (spD K R) dvs E tr) σ H d := fun H1 e1 Q q =>
  h H1 e1 _ fun xs H2 e2 hx => ⟨ds ++ dds, d, hx.app (hd H2), hR, fun v H3 e3 hv => q v H3 (e2.trans e3) hv⟩
theorem es_c {R : List PyData → PyData → Prop} {E : XK} {tr : TA} (h : EsA K tr σ H ds) (hR : R ds d) : Es K (tCall (spD K R) [] E tr) σ H d := es_call (dds := []) (fun _ => .nil) h (by rw [List.append_nil]; exact hR)
def CbD (K : PySem.W.Frag) (r : List V → Hp → VK → Prop) (ds : List PyData) (d : PyData) : Prop := ∀ H vs, DtA K H vs ds → ∀ Q : VK, Af K H d Q → r vs H Q
theorem es_b {r : List V → Hp → VK → Prop} {tr : TA} (o : CbD K r ds d) (h : EsA K tr σ H ds) : Es K (tCB r tr) σ H d := fun H1 e1 Q q =>
  h H1 e1 _ fun xs H2 e2 hx => o H2 xs hx Q fun v H3 e3 hv => q v H3 (e2.trans e3) hv
def rLen (K : PySem.W.Frag) : List V → Hp → VK → Prop := fun xs H Q => ∃ x n, xs = [x] ∧ LenV K x H n ∧ Q (.int n) H
theorem call_lenK {X : Cx} {K : PySem.W.Frag} (hK : X.K = K := by rfl) : CallR X (.builtin "len") (rLen K) := by
  subst hK
  exact call_len
theorem DtA.one_inv {vs : List V} (h : DtA K H vs [d]) : ∃ v, vs = [v] ∧ Dt K H v d := by
  cases h with
  | cons h r => cases r; exact ⟨_, rfl, h⟩
theorem cb_lenW {w : Wd} (hl : w.length ≤ 100000) : CbD K (rLen K) [wD w] (.int (w.length : Nat)) := fun H vs h0 Q q => by
  obtain ⟨v, rfl, h⟩ := h0.one_inv
  cases h
  exact ⟨_, _, rfl, ⟨by rw [S_length]; exact len_small hl, rfl⟩, q _ _ (Same.refl H) (by rw [S_length]; exact .int _)⟩
theorem cb_lenL : CbD K (rLen K) [.list ds] (.int (ds.length : Nat)) := fun H vs h0 Q q => by
  obtain ⟨v, rfl, h⟩ := h0.one_inv
  cases h with
  | lst h r => exact ⟨_, _, rfl, .inl ⟨_, SqL.of h, rfl⟩, q _ _ (Same.refl H) (by rw [r.len]; exact .int _)⟩
theorem cb_lenT : CbD K (rLen K) [.tuple ds] (.int (ds.length : Nat)) := fun H vs h0 Q q => by
  obtain ⟨v, rfl, h⟩ := h0.one_inv
  cases h with
  | tup h r => exact ⟨_, _, rfl, .inr ⟨_, h, rfl⟩, q _ _ (Same.refl H) (by rw [r.len]; exact .int _)⟩
def rAllK (K : PySem.W.Frag) : List V → Hp → VK → Prop := rAll K
theorem cr_allK {X : Cx} {K : PySem.W.Frag} (hc : X.calm = true) (hK : X.K = K := by rfl) : CallR X (.builtin "all") (rAll K) := by
  subst hK
  exact cr_all hc
theorem bools_eq : ∀ {vs : List V} {bs : List Bool}, DtA K H vs (bs.map PyData.bool) → vs = bs.map V.bl
  | _, [], h => by cases h; rfl
  | _, b :: bs, h => by
    cases h with
    | cons h1 h2 =>
      cases h1
      rw [bools_eq h2]
      rfl
theorem cb_all {bs : List Bool} : CbD K (rAll K) [.list (bs.map PyData.bool)] (.bool (bs.all id)) := fun H vs h0 Q q => by
  obtain ⟨v, rfl, h⟩ := h0.one_inv
  cases h with
  | lst h r =>
    have e := bools_eq r
    subst e
    exact ⟨_, _, rfl, SqL.of h, q _ _ (Same.refl H) (.bl _)⟩
def rIntS : List V → Hp → VK → Prop := fun xs H Q => ∃ a n, xs = [.str a] ∧ PySem.intText? a = some n ∧ a.length ≤ 640 ∧ Q (.int n) H
theorem call_intS {X : Cx} : CallR X (.type "int") rIntS := call_int_str
theorem cb_int {w : Wd} (hd : w.all isDig = true) (hn : w ≠ []) (hl : w.length ≤ 600) : CbD K rIntS [wD w] (.int (NumText.digitsVal w : Nat)) := fun H vs h0 Q q => by
  obtain ⟨v, rfl, h⟩ := h0.one_inv
  cases h
  exact ⟨_, _, rfl, SX.int_S hd hn (by omega), by rw [S_length]; omega, q _ _ (Same.refl H) (.int _)⟩
def rListOf (K : PySem.W.Frag) : List V → Hp → VK → Prop := fun xs H Q => ∃ p ys, xs = [.ref p] ∧ (SqL K H p ys ∨ SqT K H p ys) ∧ ∀ l, H l = none → Q (.ref l) (upd H l (.lst ys))
theorem call_listK {X : Cx} {K : PySem.W.Frag} (hK : X.K = K := by rfl) : CallR X (.type "list") (rListOf K) := by
  subst hK
  exact call_list_of
theorem cb_listL : CbD K (rListOf K) [.list ds] (.list ds) := fun H vs h0 Q q => by
  obtain ⟨v, rfl, h⟩ := h0.one_inv
  cases h with
  | lst h r => exact ⟨_, _, rfl, .inl (SqL.of h), fun l hl => q _ _ (same_new hl _) (.lst upd_same (r.same (same_new hl _)))⟩
def rTupOf (K : PySem.W.Frag) : List V → Hp → VK → Prop := fun xs H Q => ∃ p ys, xs = [.ref p] ∧ ((SqL K H p ys ∧ ∀ l, H l = none → Q (.ref l) (upd H l (.tup ys))) ∨ (SqT K H p ys ∧ Q (.ref p) H))
theorem call_tupK {X : Cx} {K : PySem.W.Frag} (hK : X.K = K := by rfl) : CallR X (.type "tuple") (rTupOf K) := by
  subst hK
  exact call_tuple_of
theorem cb_tupL : CbD K (rTupOf K) [.list ds] (.tuple ds) := fun H vs h0 Q q => by
  obtain ⟨v, rfl, h⟩ := h0.one_inv
  cases h with
  | lst h r => exact ⟨_, _, rfl, .inl ⟨SqL.of h, fun l hl => q _ _ (same_new hl _) (.tup (SqT.of upd_same) (r.same (same_new hl _)))⟩⟩
/-- isinstance(e, C) -/
def rIs (K : PySem.W.Frag) (c : String) : List V → Hp → VK → Prop := fun vs H Q => ∃ (v : V) (t : Value) (b : Bool), vs = [v, .ty c] ∧ TyX K H v t ∧ PySem.W.kitOne K t (.type c) = some b ∧ Q (.bl b) H
theorem call_isK {X : Cx} {K : PySem.W.Frag} {c : String} (hK : X.K = K := by rfl) : CallR X (.builtin "isinstance") (rIs K c) := by
  subst hK
  intro pins s σ H vs us Q I r h
  obtain ⟨v, t, b, rfl, ty, k, q⟩ := h
  exact call_isi pins s σ H _ us Q I r ⟨v, .ty c, t, .type c, b, rfl, .ty c, ty, k, q⟩
def tIs (K : PySem.W.Frag) (c : String) (te : TE) : TE := tCB (rIs K c) (tCons te (tCons (tC (.ty c)) tNil))
theorem es_is {c : String} (h : Es K t σ H d) (hc : c ∈ clNames := by decide) : Es K (tIs K c t) σ H (.bool (isB (tyD d) c)) := fun H1 e1 Q q =>
  h H1 e1 _ fun x H2 e2 hx => ⟨x, _, _, rfl, tyx_dt hx, kit_d K d hc, q _ H2 e2 (.bl _)⟩
/-! walks, comprehensions -/
def EsI (K : PySem.W.Frag) (wi : TI) (σ : L2.St) (H : Hp) (ds : List PyData) : Prop := ∀ H1, Same H H1 → ∀ R : It → Hp → Prop,
  (∀ J H2 G Y, Same H1 H2 → Walk J ds.length G Y → (∀ H3, Same H2 H3 → G H3) → (∀ i H3 x H4, Same H2 H3 → i < ds.length → Y i H3 x H4 → Same H3 H4 ∧ ∃ d, ds[i]? = some d ∧ Dt K H4 x d) → R J H2) → wi σ H1 R
theorem esi_list (h : Es K t σ H (.list ds)) : EsI K (iList K t) σ H ds := fun H1 e1 R k => h H1 e1 _ fun v H2 e2 hv => by
  cases hv with
  | @lst a xs _ hl hr =>
    have w : Walk (Itl K a) xs.length (fun H => SqL K H a xs) (YAt xs) := walk_list
    rw [hr.len] at w
    refine ⟨_, rfl, ⟨_, SqL.of hl⟩, k _ H2 _ _ e2 w (fun H3 e3 => SqL.of (e3 _ _ hl)) fun i H3 x H4 e3 hi y => ?_⟩
    obtain ⟨rfl, y⟩ := y
    obtain ⟨d, h1, h2⟩ := hr.get y
    exact ⟨Same.refl _, d, h1, h2.same e3⟩
theorem esi_tup (h : Es K t σ H (.tuple ds)) : EsI K (iTup K t) σ H ds := fun H1 e1 R k => h H1 e1 _ fun v H2 e2 hv => by
  cases hv with
  | @tup a xs _ hl hr =>
    have w : Walk (Itt K a) xs.length (fun H => SqT K H a xs) (YAt xs) := walk_tup
    rw [hr.len] at w
    refine ⟨_, rfl, ⟨_, hl⟩, k _ H2 _ _ e2 w (fun H3 e3 => same_tup e3 hl) fun i H3 x H4 e3 hi y => ?_⟩
    obtain ⟨rfl, y⟩ := y
    obtain ⟨d, h1, h2⟩ := hr.get y
    exact ⟨Same.refl _, d, h1, h2.same e3⟩
def sgD (w : Wd) : List PyData := w.map fun c => wD [c]
theorem esi_str {w : Wd} (h : Es K t σ H (wD w)) : EsI K (iStr t) σ H (sgD w) := fun H1 e1 R k => h H1 e1 _ fun v H2 e2 hv => by
  cases hv
  have ws : Walk (Its (S w)) (S w).cps.size (fun _ => True) (fun i H v H' => H' = H ∧ ∃ c, (S w).cps[i]? = some c ∧ v = .str ⟨#[c]⟩) := walk_str
  have e : (S w).cps.size = (sgD w).length := by rw [sgD, List.length_map]; exact S_length w
  rw [e] at ws
  refine ⟨_, rfl, k _ H2 _ _ e2 ws (fun _ _ => trivial) fun i H3 x H4 e3 hi y => ?_⟩
  obtain ⟨rfl, c, hc, rfl⟩ := y
  have hc' : w[i]? = some c := by simpa [S, SX.S] using hc
  exact ⟨Same.refl _, wD [c], by simp [sgD, hc'], .str _⟩
def intsD (n : Nat) : List PyData := (List.range n).map fun i : Nat => PyData.int (i : Int)
theorem esi_range {tr : TA} {n : Nat} (h : EsA K tr σ H [.int (n : Int)]) (hn : n ≤ 100000) : EsI K (iRng1 tr) σ H (intsD n) := fun H1 e1 R k => h H1 e1 _ fun vs H2 e2 hv0 => by
  obtain ⟨v, rfl, hv⟩ := hv0.one_inv
  cases hv
  have w : Walk (Itr 0 (n : Int).toNat) (n : Int).toNat (fun _ => True) (YFn fun i => .int (0 + i)) := walk_range
  have e : (n : Int).toNat = (intsD n).length := by simp [intsD]
  have w2 : Walk (Itr 0 (n : Int).toNat) (intsD n).length (fun _ => True) (YFn fun i => .int (0 + i)) := by rw [← e]; exact w
  refine ⟨_, rfl, by omega, by omega, k _ H2 _ _ e2 w2 (fun _ _ => trivial) fun i H3 x H4 e3 hi y => ?_⟩
  obtain ⟨rfl, rfl⟩ := y
  have hi' : i < n := by simpa [intsD] using hi
  refine ⟨Same.refl _, .int i, by simp [intsD, hi'], ?_⟩
  show Dt K H4 (.int (0 + (i : Int))) _
  rw [Int.zero_add]
  exact .int _
/-- a comprehension over one name -/
theorem es_lc {wi : TI} {i : Nat} {tt : TT} {te : TE} {vs : List Nat} {p : PyData → Bool} {f : PyData → PyData} (hi : EsI K wi σ H ds) (hw : ∀ v, wipe ((wipe σ vs).set i (some v)) vs = wipe σ vs) (hl : ds.length ≤ 100000) (hf : ∀ d ∈ ds, p d = true → flatT (f d) = true)
    (hb : ∀ d ∈ ds, ∀ v H2, Same H H2 → Dt K H2 v d → EsT tt ((wipe σ vs).set i (some v)) H2 (p d) ∧ (p d = true → Es K te ((wipe σ vs).set i (some v)) H2 (f d))) :
    Es K (tLc wi (gName i) tt te vs) σ H (.list ((ds.filter p).map f)) := fun H1 e1 Q q => hi H1 e1 _ fun J H2 G Y e2 w hG hY D hD => by
  refine lc_it w (fun j H' => Same H2 H' ∧ ∃ acc, H' D = some (.lst acc) ∧ acc.length ≤ j ∧ DtA K H' acc (((ds.take j).filter p).map f)) ⟨same_new hD _, [], upd_same, Nat.zero_le _, by simp; exact .nil⟩ (fun j H' _ g => hG H' g.1) (fun j x H3 H4 hj g y => ?_) (fun H' g => ?_)
  · obtain ⟨g, acc, ha, hlen, hacc⟩ := g
    obtain ⟨e4, d, hd, hx⟩ := hY j H3 x H4 g hj y
    have hm := List.mem_of_getElem? hd
    have es4 : Same H H4 := (e1.trans e2).trans (g.trans e4)
    obtain ⟨h1, h2⟩ := hb d hm x H4 es4 hx
    have etk : ds.take (j + 1) = ds.take j ++ [d] := by rw [List.take_succ, hd]; rfl
    refine ⟨hw x, h1.at fun H5 e5 => ?_⟩
    cases hp : p d with
    | false =>
      refine iteF ⟨(g.trans e4).trans e5, acc, e5 _ _ (e4 _ _ ha), Nat.le_succ_of_le hlen, ?_⟩
      rw [etk, List.filter_append, List.filter_cons_of_neg (by rw [hp]; simp), List.filter_nil, List.append_nil]
      exact hacc.same (e4.trans e5)
    | true =>
      refine iteT (h2 hp H5 e5 _ fun u H6 e6 hu => ?_)
      have ha6 := e6 _ _ (e5 _ _ (e4 _ _ ha))
      have tk : TK K H6 _ := (Mo.upd (b := D) (H := H6) (o := .lst (acc ++ [u]))).tk ha6
      refine ⟨acc, ha6, len_lt (by omega), same_own (((g.trans e4).trans e5).trans e6) hD _, _, upd_same, by rw [List.length_append]; exact Nat.succ_le_succ hlen, ?_⟩
      rw [etk, List.filter_append, List.filter_cons_of_pos hp, List.filter_nil, List.map_append]
      refine ((hacc.same ((e4.trans e5).trans e6)).tk tk ?_).app (.cons (hu.tk tk (hf d hm hp)) .nil)
      have : ∀ l : List PyData, (∀ d ∈ l, d ∈ ds) → flatTs ((l.filter p).map f) = true := by
        intro l
        induction l with
        | nil => intro _; rfl
        | cons a r ih =>
          intro hl
          have hr := ih fun d hd => hl d (List.mem_cons_of_mem _ hd)
          by_cases ha : p a = true
          · rw [List.filter_cons_of_pos ha, List.map_cons, flatTs, hf a (hl a List.mem_cons_self) ha, hr]
            rfl
          · rw [List.filter_cons_of_neg ha]
            exact hr
      exact this _ fun d hd => List.mem_of_mem_take hd
  · obtain ⟨g, acc, ha, _, hacc⟩ := g
    rw [List.take_length] at hacc
    exact q _ _ (e2.trans g) (.lst ha hacc)
theorem est_yes : EsT tYes σ H true := fun H1 _ Q q => q H1 (Same.refl H1)
/-! methods of texts and lists -/
def MtD (K : PySem.W.Frag) (r : V → List V → Hp → VK → Prop) (d : PyData) (ds : List PyData) (o : PyData) : Prop := ∀ H x vs, Dt K H x d → DtA K H vs ds → ∀ Q : VK, Af K H o Q → r x vs H Q
theorem es_m {r : V → List V → Hp → VK → Prop} {T : String} {tr : TA} {o : PyData} (m : MtD K r d ds o) (h : Es K t σ H d) (hr : EsA K tr σ H ds) (ht : ∀ H x, Dt K H x d → tyV K T x H) : Es K (tBM K T r t tr) σ H o := fun H1 e1 Q q =>
  h H1 e1 _ fun x H2 e2 hx => ⟨ht _ _ hx, hr H2 (e1.trans e2) _ fun vs H3 e3 hv => m H3 x vs (hx.same e3) hv Q fun v H4 e4 ho => q v H4 ((e2.trans e3).trans e4) ho⟩
theorem es_m1 {r : V → List V → Hp → VK → Prop} {o : PyData} {w : Wd} (m : MtD K r (wD w) [da] o) (h : Es K t σ H (wD w)) (hr : Es K ta σ H da) : Es K (tM1 r t ta) σ H o := fun H1 e1 Q q =>
  h H1 e1 _ fun x H2 e2 hx => by
    refine ⟨by cases hx; exact ⟨_, rfl⟩, hr H2 (e1.trans e2) _ fun v H3 e3 hv => m H3 x [v] (hx.same e3) (.one hv) Q fun v H4 e4 ho => q v H4 ((e2.trans e3).trans e4) ho⟩
end
end K83
namespace K83
open PySem PySem.Spec PyProof.Rows L2
open C8 (Cal pe_c)
/-! ### names of the top in short -/
theorem b_isinstance : bootBuiltins "isinstance" = some (.builtin "isinstance") := by decide +kernel
theorem b_int : bootBuiltins "int" = some (.type "int") := by decide +kernel
theorem b_bool : bootBuiltins "bool" = some (.type "bool") := by decide +kernel
theorem b_str : bootBuiltins "str" = some (.type "str") := by decide +kernel
theorem b_list : bootBuiltins "list" = some (.type "list") := by decide +kernel
theorem b_tuple : bootBuiltins "tuple" = some (.type "tuple") := by decide +kernel
theorem b_dict : bootBuiltins "dict" = some (.type "dict") := by decide +kernel
theorem b_all : bootBuiltins "all" = some (.builtin "all") := by decide +kernel
theorem b_max : bootBuiltins "max" = some (.builtin "max") := by decide +kernel
theorem b_min : bootBuiltins "min" = some (.builtin "min") := by decide +kernel
theorem b_repr : bootBuiltins "repr" = some (.builtin "repr") := by decide +kernel
section
variable {X : Cx} {K : PySem.W.Frag} {e : Expr} {te : TE} {p p2 pos : Pos} {x : Str} {a : Addr} {z : Str} {t : Tok} {i : Int} {c : String}
theorem xIs (ni : X.mg "isinstance" = none) (nc : X.mg x = none) (hv : bootBuiltins x = some (.type c)) (he : PE X e te) (hK : X.K = K := by rfl) (gi : Gl X "isinstance" := by rfl) (gc : Gl X x := by rfl) (h1 : x ≠ "__name__" := by decide) (h2 : (x == ("__debug__" : Str)) = false := by decide)
    (hs : starEach [e, .Name x p2] X.env = (false, eval e X.env) :: starEach [.Name x p2] X.env := by rfl) (hs2 : starEach [.Name x p2] X.env = (false, eval (.Name x p2) X.env) :: starEach [] X.env := by rfl)
    (hpl : (backTo pos (starEach [.Name x p2] X.env)).any (·.1) = false := by rfl) :
    PE X (.Call (.Name "isinstance" p) [e, .Name x p2] [] pos) (tIs K c te) :=
  pe_callB (call_isK hK) gi ni b_isinstance (pa_cons he (pa_cons (pe_bltn gc nc hv rfl h1 h2) pa_nil hs2) hs) (by decide) (by decide) hs hpl
theorem gR (hm : X.mg x = some (.ref a)) (hg : Gl X x := by rfl) (hd : (x == ("__debug__" : Str)) = false := by decide) : PE X (.Name x pos) (tC (.ref a)) := pe_glob (v := .ref a) hg hm rfl hd
theorem gS (hm : X.mg x = some (.str z t)) (hg : Gl X x := by rfl) (hd : (x == ("__debug__" : Str)) = false := by decide) : PE X (.Name x pos) (tC (.str z)) := pe_glob (v := .str z) hg hm ⟨_, rfl⟩ hd
theorem gI (hm : X.mg x = some (.int i t)) (hg : Gl X x := by rfl) (hd : (x == ("__debug__" : Str)) = false := by decide) : PE X (.Name x pos) (tC (.int i)) := pe_glob (v := .int i) hg hm ⟨_, rfl⟩ hd
end
/-! ### the top's other facts -/
structure Fx (w : World) (K : PySem.W.Frag) : Prop where
  kept : ∀ H, Dt K H (.ref (He.ga K "KEPT")) (.tuple (wsD K83.kept))
  eG : ExcF K "NoGround" "found"
  eR : ExcF K "NoRow" "found"
  eD : ExcF K "Doubled" "found"
  eT : ExcF K "NoText" "found"
  eS : ExcF K "NoSign" "at"
  eL : ExcF K "NoLine" "found"
  em : ∀ q ∈ exms, exmB K q.1 q.2.1 q.2.2 = true
  forms : He.valsB K (He.ga K "FORMS") kv_FORMS = true
  rows : He.valsB K (He.ga K "ROWS") kv_ROWS = true
  marked : He.valsB K (He.ga K "MARKED") kv_MARKED = true
  triples : He.valsB K (He.ga K "TRIPLES") kv_TRIPLES = true
  ne : neB K (He.ga K "Ground") (He.ma K (He.ga K "Ground") "__eq__") = true
  ins : InsG K (He.ga K "Ground")
  eq : PySem.W.findIn K (.ref (He.ga K "Ground")) "__eq__" = some (some (.ref (He.ma K (He.ga K "Ground") "__eq__")))
theorem kept_v (K : PySem.W.Frag) : tv_KEPT.map (He.Dv.v K) = K83.kept.map wV := by
  show [V.str "all", V.str "fun", V.str "same", V.str "self", V.str "put"] = [wV wAll, wV wFun, wV wSame, wV wSelf, wV wPut]
  have h : ∀ {a b : Str}, a = b → V.str a = V.str b := fun e => by rw [e]
  rw [show V.str "all" = wV wAll from h (by decide +kernel), show V.str "fun" = wV wFun from h (by decide +kernel), show V.str "same" = wV wSame from h (by decide +kernel), show V.str "self" = wV wSelf from h (by decide +kernel), show V.str "put" = wV wPut from h (by decide +kernel)]
theorem fx_of {w : World} {K : PySem.W.Frag} {mg : Str → Option Value} (T : Tx w K mg) : Fx w K := by
  obtain ⟨h1, h2⟩ := He.ba T.ex
  obtain ⟨a1, h1⟩ := He.ba h1
  obtain ⟨a2, h1⟩ := He.ba h1
  obtain ⟨a3, h1⟩ := He.ba h1
  obtain ⟨a4, h1⟩ := He.ba h1
  obtain ⟨a5, h1⟩ := He.ba h1
  obtain ⟨a6, h1⟩ := He.ba h1
  obtain ⟨b1, h2⟩ := He.ba h2
  obtain ⟨b2, h2⟩ := He.ba h2
  obtain ⟨b3, h2⟩ := He.ba h2
  obtain ⟨b4, h2⟩ := He.ba h2
  obtain ⟨b5, h2⟩ := He.ba h2
  obtain ⟨b6, h2⟩ := He.ba h2
  obtain ⟨b7, h2⟩ := He.ba h2
  refine ⟨fun H => .tup (xs := K83.kept.map wV) ?_ (dt_ws _), excB_ok a1, excB_ok a2, excB_ok a3, excB_ok a4, excB_ok a5, excB_ok a6, fun q hq => List.all_eq_true.mp h1 q hq, b2, b3, b4, b5, b6, insB_ok b7, of_decide_eq_true h2⟩
  rw [← kept_v K]
  exact He.tupB_ok b1 H
theorem tab_get {w : World} {K : PySem.W.Frag} {a : Addr} {ks : List Str} {kvs : List (Str × He.Dv)} (D : TabOk K w a ks) (hv : He.valsB K a kvs = true) {x : Str} {d : He.Dv} (hq : (x, d) ∈ kvs) : KDct K w a x (d.v K) ∧ ∃ u, PySem.W.nsIn K a x = some (some u) := by
  obtain ⟨u, e, r⟩ := He.valsB_ok hv hq
  obtain ⟨es, n, D, _⟩ := D
  exact ⟨⟨es, n, u, D.at_, D.lit, e, r⟩, u, e⟩
section
variable {K : PySem.W.Frag} {w' : World} {σ : L2.St} {H : Hp} {t te : TE} {d d1 d2 d3 : PyData} {ds : List PyData} {a : Addr} {v : V}
def rInD (K : PySem.W.Frag) (d : Addr) : R2 := fun x y H Q => ∃ (z : Str) (r : Option Value), x = .str z ∧ y = .ref d ∧ PySem.W.nsIn K d z = some r ∧ Q (.bl r.isSome) H
def rNotInD (K : PySem.W.Frag) (d : Addr) : R2 := fun x y H Q => ∃ (z : Str) (r : Option Value), x = .str z ∧ y = .ref d ∧ PySem.W.nsIn K d z = some r ∧ Q (.bl (!r.isSome)) H
theorem op_inD {X : Cx} {ks : List Str} (D : TabOk X.K X.w a ks) (hK : X.K = K := by rfl) : OpR X (compareOp .In) (rInD K a) := by
  subst hK
  obtain ⟨es, n, D, _⟩ := D
  exact op_in_kd D
theorem op_notInD {X : Cx} {ks : List Str} (D : TabOk X.K X.w a ks) (hK : X.K = K := by rfl) : OpR X (compareOp .NotIn) (rNotInD K a) := by
  subst hK
  obtain ⟨es, n, D, _⟩ := D
  exact op_notIn_kd D
theorem es_inD {z : Str} {r : Option Value} (h : Es K t σ H (.str z)) (e : PySem.W.nsIn K a z = some r) : Es K (tOp (rInD K a) t (tC (.ref a))) σ H (.bool r.isSome) := fun H1 e1 Q q => h H1 e1 _ fun x H2 e2 hx => by
  cases hx
  exact ⟨_, r, rfl, rfl, e, q _ H2 e2 (.bl _)⟩
theorem es_notInD {z : Str} {r : Option Value} (h : Es K t σ H (.str z)) (e : PySem.W.nsIn K a z = some r) : Es K (tOp (rNotInD K a) t (tC (.ref a))) σ H (.bool (!r.isSome)) := fun H1 e1 Q q => h H1 e1 _ fun x H2 e2 hx => by
  cases hx
  exact ⟨_, r, rfl, rfl, e, q _ H2 e2 (.bl _)⟩
theorem ix_dictK {X : Cx} (hK : X.K = K := by rfl) (hw : X.w = w' := by rfl) : IxR X (rIxD K w') := by
  subst hK hw
  exact ix_kdict
theorem es_getD {z : Str} (h : Es K t σ H (.str z)) (e : KDct K w' a z v) (hv : ∀ H, Dt K H v d) : Es K (tOp (rIxD K w') (tC (.ref a)) t) σ H d := fun H1 e1 Q q => h H1 e1 _ fun x H2 e2 hx => by
  cases hx
  exact ⟨a, _, v, rfl, rfl, e, q _ H2 e2 (hv _)⟩
/-! statements -/
theorem rd_ret {D : L2.Ends} (h : Es K t σ H d) (q : Af K H d D.rt) : tRet t D σ H := h.at q
theorem rd_set {D : L2.Ends} {i : Nat} (h : Es K t σ H d) (q : ∀ v H2, Same H H2 → Dt K H2 v d → D.nx (σ.set i (some v)) H2) : tAsg t (gName i) D σ H := h.at q
theorem rd_if {D : L2.Ends} {tt : TT} {u1 u2 : TS} {b : Bool} (h : EsT tt σ H b) (q1 : ∀ H2, Same H H2 → b = true → u1 D σ H2) (q2 : ∀ H2, Same H H2 → b = false → u2 D σ H2) : tIfS tt u1 u2 D σ H := h.at fun H2 e2 => by
  cases b with
  | true => exact iteT (q1 H2 e2 rfl)
  | false => exact iteF (q2 H2 e2 rfl)
theorem rd_set2 {D : L2.Ends} {i j : Nat} (h : Es K t σ H (.tuple [d1, d2])) (q : ∀ v1 v2 H2, Same H H2 → Dt K H2 v1 d1 → Dt K H2 v2 d2 → D.nx ((σ.set i (some v1)).set j (some v2)) H2) :
    tAsg t (gTup K 2 (gCons (gName i) (gCons (gName j) gNil))) D σ H := h.at fun v H2 e2 hv => by
  cases hv with
  | tup hs hr =>
    cases hr with
    | cons h1 hr =>
      cases hr with
      | cons h2 hr =>
        cases hr
        exact ⟨_, _, rfl, hs, rfl, _, _, rfl, _, _, rfl, rfl, q _ _ H2 e2 h1 h2⟩
theorem rd_set3 {D : L2.Ends} {i j k : Nat} (h : Es K t σ H (.tuple [d1, d2, d3])) (q : ∀ v1 v2 v3 H2, Same H H2 → Dt K H2 v1 d1 → Dt K H2 v2 d2 → Dt K H2 v3 d3 → D.nx (((σ.set i (some v1)).set j (some v2)).set k (some v3)) H2) :
    tAsg t (gTup K 3 (gCons (gName i) (gCons (gName j) (gCons (gName k) gNil)))) D σ H := h.at fun v H2 e2 hv => by
  cases hv with
  | tup hs hr =>
    cases hr with
    | cons h1 hr =>
      cases hr with
      | cons h2 hr =>
        cases hr with
        | cons h3 hr =>
          cases hr
          exact ⟨_, _, rfl, hs, rfl, _, _, rfl, _, _, rfl, _, _, rfl, rfl, q _ _ _ H2 e2 h1 h2 h3⟩
end
section
variable {P : Program} {w : World} {K : PySem.W.Frag} {mg : Str → Option Value} {base : Heap}
theorem cal_of {x : Str} {params : Arguments} {body : List Stmt} {scope : Scope} {fd : FuncData} {ps : List Str} {k : Nat} {sp : Sp} (F : FunD K x x params body scope [] [] (He.ga K x) fd) (ok : FnOk P w K mg base CX0 k (He.ga K x) fd ps sp) (g : mg x = some (.ref (He.ga K x)))
    (h : ∀ (kV doc pm : Value) (an : Option Addr) (cdv ct : Value) (us : List Value), us.length = ps.length → bindArgs (PySem.W.fnOf x x params body scope .none kV doc pm an cdv ct) ⟨us, []⟩ = pure (ps.zip us)) : Cal P w K mg base k x sp [] :=
  ⟨_, _, ps, [], ok, g, F.kp, F.bindsN h, .nil⟩
theorem calAt_of {x : Str} {params : Arguments} {body : List Stmt} {scope : Scope} {fd : FuncData} {ps : List Str} {k : Nat} {sp : Sp} (F : FunD K x x params body scope [] [] (He.ga K x) fd) (ok : FnOk P w K mg base CX0 k (He.ga K x) fd ps sp)
    (h : ∀ (kV doc pm : Value) (an : Option Addr) (cdv ct : Value) (us : List Value), us.length = ps.length → bindArgs (PySem.W.fnOf x x params body scope .none kV doc pm an cdv ct) ⟨us, []⟩ = pure (ps.zip us)) : C8.CalAt P w K mg base k (He.ga K x) sp :=
  ⟨_, ps, ok, F.kp, F.bindsN h⟩
theorem spD_len {R : List PyData → PyData → Prop} {n : Nat} (h : ∀ ds d, R ds d → ds.length = n) : ∀ vs H Q E, spD K R vs H Q E → vs.length = n := fun vs H Q E ⟨ds, d, h1, h2, _⟩ => by rw [h1.len, h ds d h2]
/-! ### is_number, is_whole -/
def RNumber : List PyData → PyData → Prop := fun ds d => ∃ i : Int, ds = [.int i] ∧ d = .bool (decide (0 ≤ i))
abbrev N_is_number : List Str := ["thing"]
theorem sc_is_number : FnScope N_is_number N_is_number (defScope s_is_number) := ⟨rfl, rfl, rfl, by decide +kernel, rfl, by decide +kernel, by decide +kernel⟩
theorem c_is_number (T : Tx w K mg) : Cal P w K mg base 1 "is_number" (spD K RNumber) [] := by
  obtain ⟨fd, F⟩ := T.d_is_number
  refine cal_of F (F.ok sc_is_number (spD_len fun ds d h => by obtain ⟨_, rfl, _⟩ := h; rfl) (fun cdv A outer s H vs Q E hr h => ⟨_, PSs.nox (pss_one (ps_ret (pe_and (xIs (K := K) T.n_isinstance T.n_int b_int (pv 0)) (pe_and (pe_not (xIs (K := K) T.n_isinstance T.n_bool b_bool (pv 0))) (pe_one (pe_cmpR op_ge (pv 0) pe_int (nomark _))))))), ?_⟩)) T.g_is_number fun _ _ _ _ _ _ us hl => match us, hl with | [_], _ => rfl
  obtain ⟨ds, d, hvs, ⟨i, rfl, rfl⟩, q⟩ := h
  obtain ⟨v, rfl, hthing⟩ := hvs.one_inv
  exact rd_ret ((es_and (es_is (es_var rfl hthing)) fun _ => (es_and (es_not (es_is (es_var rfl hthing))) fun _ => (es_op od_cmp (es_var rfl hthing) es_int))).eq (by simp [tyD, isB])) q
def RWhole : List PyData → PyData → Prop := fun ds d => ∃ i lo hi : Int, ds = [.int i, .int lo, .int hi] ∧ d = .bool (decide (lo ≤ i) && decide (i ≤ hi))
abbrev N_is_whole : List Str := ["thing", "low", "high"]
theorem sc_is_whole : FnScope N_is_whole N_is_whole (defScope s_is_whole) := ⟨rfl, rfl, rfl, by decide +kernel, rfl, by decide +kernel, by decide +kernel⟩
theorem c_is_whole (T : Tx w K mg) : Cal P w K mg base 1 "is_whole" (spD K RWhole) [] := by
  obtain ⟨fd, F⟩ := T.d_is_whole
  refine cal_of F (F.ok sc_is_whole (spD_len fun ds d h => by obtain ⟨_, _, _, rfl, _⟩ := h; rfl) (fun cdv A outer s H vs Q E hr h => ⟨_, PSs.nox (pss_one (ps_ret (pe_and (xIs (K := K) T.n_isinstance T.n_int b_int (pv 0)) (pe_and (pe_not (xIs (K := K) T.n_isinstance T.n_bool b_bool (pv 0))) (pe_one (pe_chain op_le op_le (pv 1) (pv 0) (pv 2))))))), ?_⟩)) T.g_is_whole
    fun _ _ _ _ _ _ us hl => match us, hl with | [_, _, _], _ => rfl
  obtain ⟨ds, d, hvs, ⟨i, lo, hi, rfl, rfl⟩, q⟩ := h
  cases hvs with
  | cons hthing hvs =>
    cases hvs with
    | cons hlow hvs =>
      obtain ⟨v, rfl, hhigh⟩ := hvs.one_inv
      exact rd_ret ((es_and (es_is (es_var rfl hthing)) fun _ => (es_and (es_not (es_is (es_var rfl hthing))) fun _ => (es_chain od_cmp od_cmp (es_var rfl hlow) (es_var rfl hthing) (es_var rfl hhigh)))).eq (by simp [tyD, isB])) q
/-! ### is_name -/
def RName : List PyData → PyData → Prop := fun ds d => ∃ w : Wd, ds = [wD w] ∧ w.length ≤ 4000 ∧ d = .bool (isName w)
abbrev N_is_name : List Str := ["thing", "sign"]
abbrev P_is_name : List Str := ["thing"]
theorem sc_is_name : FnScope N_is_name P_is_name (defScope s_is_name) := ⟨rfl, rfl, rfl, by decide +kernel, rfl, by decide +kernel, by decide +kernel⟩
def wSmall : Wd := [97, 98, 99, 100, 101, 102, 103, 104, 105, 106, 107, 108, 109, 110, 111, 112, 113, 114, 115, 116, 117, 118, 119, 120, 121, 122]
theorem mem_small (c : Nat) : decide (c ∈ wSmall) = isLow c := by
  unfold isLow wSmall
  rw [Bool.eq_iff_iff]
  simp only [decide_eq_true_eq, Bool.and_eq_true, List.mem_cons, List.not_mem_nil, or_false]
  omega
def wFigs : Wd := [48, 49, 50, 51, 52, 53, 54, 55, 56, 57]
theorem mem_figs (c : Nat) : decide (c ∈ wFigs) = isDig c := by
  unfold isDig wFigs
  rw [Bool.eq_iff_iff]
  simp only [decide_eq_true_eq, Bool.and_eq_true, List.mem_cons, List.not_mem_nil, or_false]
  omega
def sgn : PyData → Nat
  | .str x => x.cps.toList.headD 0
  | _ => 0
theorem sgn_w (c : Nat) : sgn (wD [c]) = c := rfl
theorem all_filter {ds : List PyData} : ds.filter (fun _ => true) = ds := by simp
/-- all([sign in W for sign in w]) -/
theorem sg_all (w : Wd) (p : Nat → Bool) : ((sgD w).filter (fun _ => true)).map (fun d => PyData.bool (p (sgn d))) = (w.map p).map PyData.bool := by
  rw [all_filter, sgD, List.map_map, List.map_map]
  rfl
theorem all_id (l : List Bool) : l.all id = l.all (fun b => b) := rfl
theorem map_all (w : Wd) (p : Nat → Bool) : (w.map p).all id = w.all p := by
  rw [List.all_map]
  rfl
theorem sg_len (w : Wd) : (sgD w).length = w.length := by simp [sgD]
theorem sg_mem {w : Wd} {d : PyData} (h : d ∈ sgD w) : ∃ c, c ∈ w ∧ d = wD [c] := by
  obtain ⟨c, h1, h2⟩ := List.mem_map.mp h
  exact ⟨c, h1, h2.symm⟩
theorem c_is_name (T : Tx w K mg) : Cal P w K mg base 1 "is_name" (spD K RName) [] := by
  obtain ⟨fd, F⟩ := T.d_is_name
  have X := fx_of T
  obtain ⟨tSMALL, hSMALL⟩ := T.z_SMALL
  refine cal_of F (F.ok sc_is_name (spD_len fun ds d h => by obtain ⟨_, rfl, _⟩ := h; rfl) (fun cdv A outer s H vs Q E hr h => ⟨_, PSs.nox (pss_cons (ps_if (PW.pt (pw_or (pt_not (pt_val (xIs (K := K) T.n_isinstance T.n_str b_str (pv 0)))) (pw_or (pt_not (pt_chain op_le op_le pe_int (pe_callB (call_lenK (K := K)) rfl T.n_len PySem.boot_len (pa_cons (pv 0) pa_nil)) pe_int)) (pw_or1 (pt_cmpR (op_inK (K := K)) (pv 0) (gR T.g_KEPT) (by rfl)))))) (pss_one (ps_ret pe_bl)) pss_nil)
    (pss_one (ps_ret (pe_callB (cr_allK (K := K) rfl) rfl T.n_all b_all (pa_cons (pe_lc (own := [("sign", 1)]) (g := (gName 1)) (tt := tYes) (by rfl) sc_is_name.nd (pi_str (pv 0)) (blkOk_by (N := N_is_name) (sc := defScope s_is_name) (by decide +kernel)) (fun _ _ _ _ _ => (pg_name (i := 1) sc_is_name.nd rfl (Or.inl rfl))) (fun _ _ _ _ _ => pts_nil) (fun _ _ _ _ _ => (pe_cmpR op_inS (pv 1) (gS hSMALL) (by rfl)))) pa_nil))))), ?_⟩)) T.g_is_name
    fun _ _ _ _ _ _ us hl => match us, hl with | [_], _ => rfl
  obtain ⟨ds, d, hvs, ⟨w', rfl, hl, rfl⟩, q⟩ := h
  obtain ⟨v, rfl, hthing⟩ := hvs.one_inv
  refine rd_if (est_or (est_not (est_val (es_is (es_var rfl hthing)))) fun _ => (est_or (est_not (est_op (es_chain od_cmp od_cmp es_int (es_b (cb_lenW (by omega)) (esa_cons (es_var rfl hthing) esa_nil)) es_int))) fun _ => (est_op (es_op od_inT (es_var rfl hthing) (es_ref X.kept))))) (fun H2 e2 hb => ?_) (fun H2 e2 hb => ?_)
  · refine rd_ret (d := .bool (isName w')) (es_bl.eq ?_) fun v H3 e3 hv => q v H3 (e2.trans e3) hv
    have : isName w' = false := by
      simp only [tyD, isB, wD] at hb
      rw [isName, Bool.eq_false_iff]
      intro z
      simp at hb z
      rcases hb with hb | hb
      · omega
      · exact z.1.2 hb
    rw [this]
  · refine rd_ret (d := .bool (isName w')) ((es_b (cb_all (bs := w'.map isLow)) (esa_cons ((es_lc (p := fun _ => true) (f := fun d => PyData.bool (isLow (sgn d))) (esi_str (es_var rfl (hthing.same e2))) (fun _ => rfl) (by rw [sg_len]; omega) (fun _ _ _ => rfl) fun d hd v H3 e3 hv => ?_).eq (congrArg PyData.list (sg_all w' isLow))) esa_nil)).eq ?_) fun v H3 e3 hv => q v H3 (e2.trans e3) hv
    · obtain ⟨c, _, rfl⟩ := sg_mem hd
      exact ⟨est_yes, fun _ => (es_op od_inS (es_var rfl hv) (es_w wSmall)).eq (by rw [mem_small, sgn_w])⟩
    · rw [map_all]
      congr 1
      simp only [tyD, isB, wD] at hb
      rw [isName]
      simp at hb
      simp [hb]
      omega
end
end K83
namespace K83
open PySem PySem.Spec PyProof.Rows L2
open C8 (Cal pe_c)
/-! ### terms as data -/
def T.data : T → PyData
  | .thing n => .tuple [wD wThing, wD n]
  | .at k => .tuple [wD [97, 116], .int k]
  | .kind h => .tuple [wD [107, 105, 110, 100], .int h]
  | .name n => .tuple [wD [110, 97, 109, 101], wD n]
  | .maker n k => .tuple [wD wMaker, wD n, .int k]
  | .eater n h => .tuple [wD [101, 97, 116, 101, 114], wD n, .int h]
  | .n2 w x y => .tuple [wD w, x.data, y.data]
  | .n3 w x y z => .tuple [wD w, x.data, y.data, z.data]
def oT : Option T → PyData
  | none => .none
  | some t => t.data
theorem oT_none (o : Option T) : isNoneD (oT o) = o.isNone := by
  cases o with
  | none => rfl
  | some t => cases t <;> rfl
theorem aD_none (o : Option Nat) : isNoneD (aD o) = o.isNone := by cases o <;> rfl
section
variable {K : PySem.W.Frag} {σ : L2.St} {H : Hp} {t : TE} {w : Wd}
theorem sl_1 (h : w.length ≤ 4000) : SlD K C8.rSlX (wD w) (some 1) none (wD (w.drop 1)) := sd_txt (by omega) (SX.slice_from (i := 1) (by decide))
theorem sl_to1 (h : w.length ≤ 4000) : SlD K C8.rSlX (wD w) none (some 1) (wD (w.take 1)) := sd_txt (by omega) (SX.slice_to (i := 1) (by decide))
/-! list.index, str.partition -/
theorem mt_indexK {X : Cx} {K : PySem.W.Frag} (hK : X.K = K := by rfl) : MtR X "list.index" (rIndex K) := by
  subst hK
  exact mt_index
theorem eqV_a (n : Nat) (o : Option Nat) : eqV (aV o) (.int n) = decide (o = some n) := by
  cases o with
  | none => rfl
  | some m =>
    show ((m : Int) == (n : Int)) = _
    rw [Bool.eq_iff_iff]
    simp
    exact ⟨fun h => by omega, fun h => by omega⟩
theorem idx_get {ar : Ar} {x : Option Nat} (h : x ∈ ar) : ar[ar.idxOf x]? = some x ∧ ∀ j < ar.idxOf x, ar[j]? ≠ some x := by
  induction ar with
  | nil => cases h
  | cons a r ih =>
    by_cases e : a = x
    · subst e
      simp
    · have h' : x ∈ r := by
        rcases List.mem_cons.mp h with q | q
        · exact absurd q.symm e
        · exact q
      obtain ⟨h1, h2⟩ := ih h'
      have eb : (a == x) = false := by
        rw [Bool.eq_false_iff]
        exact fun q => e (eq_of_beq q)
      rw [List.idxOf_cons, eb]
      refine ⟨by simpa using h1, fun j hj => ?_⟩
      cases j with
      | zero => simpa using e
      | succ j =>
        have := h2 j (by simpa using hj)
        simpa using this
theorem md_index {ar : Ar} {n : Nat} (h : some n ∈ ar) : MtD K (rIndex K) (.list (ar.map aD)) [.int n] (.int (ar.idxOf (some n) : Nat)) := fun H x vs hx hvs Q q => by
  obtain ⟨v, rfl, hv⟩ := hvs.one_inv
  cases hv
  cases hx with
  | lst hl hr =>
    have e := Dt.ar_eq hr
    subst e
    obtain ⟨h1, h2⟩ := idx_get h
    refine ⟨_, _, _, ar.idxOf (some n), aV (some n), rfl, rfl, SqL.of hl, rfl, flat_ar ar, by rw [List.getElem?_map, h1]; rfl, by rw [eqV_a]; simp, fun m z' hm hz => ?_, q _ _ (Same.refl H) (.int _)⟩
    rw [List.getElem?_map] at hz
    cases e : ar[m]? with
    | none => rw [e] at hz; cases hz
    | some o =>
      rw [e] at hz
      cases hz
      rw [eqV_a, decide_eq_false]
      intro z
      rw [z] at e
      exact h2 m hm e
theorem ty_list {ds : List PyData} : ∀ H x, Dt K H x (.list ds) → tyV K "list" x H := fun H x h => by
  cases h with
  | lst h _ => exact .inl ⟨rfl, _, SqL.of h⟩
def rPart : V → List V → Hp → VK → Prop := fun x xs H Q => ∃ a b, x = .str a ∧ xs = [.str b] ∧ (b.length == 0) = false ∧ a.length ≤ sizeLine ∧
    ∀ p, H p = none → Q (.ref p) (upd H p (.tup [.str (Txt.partition a b).1, .str (Txt.partition a b).2.1, .str (Txt.partition a b).2.2]))
theorem pe_partitionK {X : Cx} {o e : Expr} {to te : TE} {apos pos : Pos} (ho : PE X o to) (he : PE X e te) (hs : starEach [e] X.env = [(false, eval e X.env)] := by rfl) (hbase : attributeBase o "partition" X.env (eval o X.env) = eval o X.env := by rfl) (hline : (apos.endLine == pos.line) = true := by rfl) :
    PE X (.Call (.Attribute o "partition" apos) [e] [] pos) (tM1 rPart to te) := pe_partition ho he hs hbase hline
theorem ahead_behind {c : Nat} : ∀ {w : Wd}, c ∈ w → w = ahead c w ++ ([c] ++ behind c w)
  | [], h => by cases h
  | d :: r, h => by
    by_cases e : d = c
    · subst e
      simp [ahead, behind]
    · have h' : c ∈ r := by
        rcases List.mem_cons.mp h with q | q
        · exact absurd q.symm e
        · exact q
      have e1 : (d != c) = true := by simp [e]
      have ih := ahead_behind h'
      have e2 : ahead c (d :: r) = d :: ahead c r := by simp [ahead, e1]
      have e3 : behind c (d :: r) = behind c r := by simp [behind, e1]
      rw [e2, e3, List.cons_append, ← ih]
theorem ahead_no (c : Nat) : ∀ w : Wd, c ∉ ahead c w
  | [], h => by cases h
  | d :: r, h => by
    by_cases e : d = c
    · subst e
      simp [ahead] at h
    · have e1 : (d != c) = true := by simp [e]
      have e2 : ahead c (d :: r) = d :: ahead c r := by simp [ahead, e1]
      rw [e2] at h
      rcases List.mem_cons.mp h with q | q
      · exact e q.symm
      · exact ahead_no c r q
theorem part_yes {c : Nat} (h : c ∈ w) : Txt.partition (S w) (S [c]) = (S (ahead c w), S [c], S (behind c w)) := by
  refine SX.partition_some (by simp) ?_
  have := SX.par_head (sep := []) (behind c w) (ahead_no c w)
  rw [← ahead_behind h] at this
  exact this
theorem md_part {c : Nat} (h : c ∈ w) (hl : w.length ≤ 4000) : MtD K rPart (wD w) [wD [c]] (.tuple [wD (ahead c w), wD [c], wD (behind c w)]) := fun H x vs hx hvs Q q => by
  obtain ⟨v, rfl, hv⟩ := hvs.one_inv
  cases hv
  cases hx
  refine ⟨_, _, rfl, rfl, rfl, by rw [S_length]; exact len_small (by omega), fun p hp => q _ _ (same_new hp _) (.tup (SqT.of upd_same) ?_)⟩
  rw [part_yes h]
  exact .cons (.str _) (.cons (.str _) (.cons (.str _) .nil))
end
theorem behind_len (c : Nat) (w : Wd) : (behind c w).length ≤ w.length := by
  have h : ((w.dropWhile (· != c))).length ≤ w.length := by
    induction w with
    | nil => simp
    | cons a r ih =>
      rw [List.dropWhile_cons]
      split
      · simp; omega
      · simp
  unfold behind
  rw [List.length_drop]
  omega
theorem ahead_len (c : Nat) (w : Wd) : (ahead c w).length ≤ w.length := by
  unfold ahead
  induction w with
  | nil => simp
  | cons a r ih =>
    rw [List.takeWhile_cons]
    split
    · simp; omega
    · simp
section
variable {P : Program} {w : World} {K : PySem.W.Frag} {mg : Str → Option Value} {base : Heap}
/-! ### height_in, number_in -/
def wHts : Wd := [48, 49, 50, 51, 52, 53]
theorem mem_hts (c : Nat) : decide (c ∈ wHts) = (decide (48 ≤ c) && decide (c ≤ 53)) := by
  unfold wHts
  rw [Bool.eq_iff_iff]
  simp only [decide_eq_true_eq, Bool.and_eq_true, List.mem_cons, List.not_mem_nil, or_false]
  omega
def RHgt : List PyData → PyData → Prop := fun ds d => ∃ w : Wd, ds = [wD w] ∧ w.length ≤ 4000 ∧ d = aD (hgt w)
abbrev N_height_in : List Str := ["text"]
abbrev P_height_in : List Str := ["text"]
theorem sc_height_in : FnScope N_height_in P_height_in (defScope s_height_in) := ⟨rfl, rfl, rfl, by decide +kernel, rfl, by decide +kernel, by decide +kernel⟩
theorem c_height_in (T : Tx w K mg) : Cal P w K mg base 1 "height_in" (spD K RHgt) [] := by
  obtain ⟨fd, F⟩ := T.d_height_in
  obtain ⟨tHEIGHTS, hHEIGHTS⟩ := T.z_HEIGHTS
  refine cal_of F (F.ok sc_height_in (spD_len fun ds d h => by obtain ⟨_, rfl, _⟩ := h; rfl) (fun cdv A outer s H vs Q E hr h => ⟨_, PSs.nox (pss_one (ps_ret (pe_ifExp (PW.pt (pw_and (pt_cmpR op_eq (pe_callB (call_lenK (K := K)) rfl T.n_len PySem.boot_len (pa_cons (pv 0) pa_nil)) pe_int (nomark _)) (pw_and1 (pt_cmpR op_inS (pv 0) (gS hHEIGHTS) (by rfl))))) (pe_callTy call_intS rfl T.n_int b_int (pa_cons (pv 0) pa_nil)) pe_non))), ?_⟩)) T.g_height_in
    fun _ _ _ _ _ _ us hl => match us, hl with | [_], _ => rfl
  obtain ⟨ds, d, hvs, ⟨w', rfl, hl, rfl⟩, q⟩ := h
  obtain ⟨v, rfl, htext⟩ := hvs.one_inv
  have hlen := est_op (es_op od_eqI (es_b (cb_lenW (K := K) (show w'.length ≤ 100000 by omega)) (esa_cons (es_var (σ := [some v]) (i := 0) rfl htext) esa_nil)) (es_int (i := 1)))
  match w', hl with
  | [], _ => exact rd_ret ((es_if (est_and (b := false) hlen fun h => by simp at h) (fun hc => by simp at hc) (fun hc => es_non)).eq rfl) q
  | [c], _ =>
    refine rd_ret ((es_if (est_and hlen fun _ => (est_op (es_op od_inS (es_var rfl htext) (es_w wHts)))) (fun hc => ((es_b (cb_int ?_ ?_ ?_) (esa_cons (es_var rfl htext) esa_nil)).eq ?_)) (fun hc => es_non.eq ?_))) q
    · rw [mem_hts] at hc
      simp [isDig] at hc ⊢
      omega
    · simp
    · simp
    · rw [mem_hts] at hc
      simp at hc
      show PyData.int ((NumText.digitsVal [c] : Nat) : Int) = aD (hgt [c])
      rw [val1]
      simp [hgt, hc, aD]
    · rw [mem_hts] at hc
      have : hgt [c] = none := by
        show (if 48 ≤ c ∧ c ≤ 53 then some (c - 48) else none) = none
        rw [if_neg]
        intro z
        simp [z] at hc
      rw [this]
      rfl
  | c :: d :: r, _ => exact rd_ret ((es_if (est_and (b := false) hlen fun h => by simp at h; omega) (fun hc => by simp at hc) (fun hc => es_non)).eq rfl) q
def RNum : List PyData → PyData → Prop := fun ds d => ∃ (w : Wd) (m : Nat), ds = [wD w, .int m] ∧ w.length ≤ 4000 ∧ m ≤ 600 ∧ d = aD (figs m w)
abbrev N_number_in : List Str := ["text", "most", "sign"]
abbrev P_number_in : List Str := ["text", "most"]
theorem sc_number_in : FnScope N_number_in P_number_in (defScope s_number_in) := ⟨rfl, rfl, rfl, by decide +kernel, rfl, by decide +kernel, by decide +kernel⟩
theorem fn_number_in (T : Tx w K mg) : ∃ fd, FnOk P w K mg base CX0 1 (He.ga K "number_in") fd P_number_in (spD K RNum) ∧ FunD K "number_in" "number_in" (defArgs s_number_in) (defBody s_number_in) (defScope s_number_in) [.int 3] [] (He.ga K "number_in") fd := by
  obtain ⟨fd, F⟩ := T.d_number_in
  obtain ⟨tFIGURES, hFIGURES⟩ := T.z_FIGURES
  refine ⟨fd, F.ok sc_number_in (spD_len fun ds d h => by obtain ⟨_, _, rfl, _⟩ := h; rfl) (fun cdv A outer s H vs Q E hr h => ⟨_, PSs.nox (pss_cons (ps_if (PW.pt (pw_or (pt_not (pt_chain op_le op_le pe_int (pe_callB (call_lenK (K := K)) rfl T.n_len PySem.boot_len (pa_cons (pv 0) pa_nil)) (pv 1))) (pw_or1 (pt_not (pt_val (pe_callB (cr_allK (K := K) rfl) rfl T.n_all b_all (pa_cons (pe_lc (own := [("sign", 2)]) (g := (gName 2)) (tt := tYes) (by rfl) sc_number_in.nd (pi_str (pv 0)) (blkOk_by (N := N_number_in) (sc := defScope s_number_in) (by decide +kernel)) (fun _ _ _ _ _ => (pg_name (i := 2) sc_number_in.nd rfl (Or.inl rfl))) (fun _ _ _ _ _ => pts_nil) (fun _ _ _ _ _ => (pe_cmpR op_inS (pv 2) (gS hFIGURES) (by rfl)))) pa_nil))))))) (pss_one (ps_ret pe_non)) pss_nil)
    (pss_cons (ps_if (PW.pt (pw_and (pt_cmpR op_eq (pe_ix ix_str (pv 0) pe_int (fun _ _ => rfl)) pe_str (nomark _)) (pw_and1 (pt_cmpR op_ne (pv 0) pe_str (nomark _))))) (pss_one (ps_ret pe_non)) pss_nil)
    (pss_one (ps_ret (pe_callTy call_intS rfl T.n_int b_int (pa_cons (pv 0) pa_nil)))))), ?_⟩), F⟩
  obtain ⟨ds, d, hvs, ⟨w', m, rfl, hl, hm, rfl⟩, q⟩ := h
  cases hvs with
  | cons htext hvs =>
    obtain ⟨v2, rfl, hmost⟩ := hvs.one_inv
    rename_i v
    refine rd_if (est_or (est_not (est_op (es_chain od_cmp od_cmp es_int (es_b (cb_lenW (by omega)) (esa_cons (es_var rfl htext) esa_nil)) (es_var rfl hmost)))) fun _ => (est_not (est_val (es_b (cb_all (bs := w'.map isDig)) (esa_cons ((es_lc (p := fun _ => true) (f := fun d => PyData.bool (isDig (sgn d))) (esi_str (es_var rfl htext)) (fun _ => rfl) (by rw [sg_len]; omega) (fun _ _ _ => rfl) fun d hd v H3 e3 hv => ?_).eq (congrArg PyData.list (sg_all w' isDig))) esa_nil))))) (fun H2 e2 hb => ?_) (fun H2 e2 hb => ?_)
    · obtain ⟨c, _, rfl⟩ := sg_mem hd
      exact ⟨est_yes, fun _ => (es_op od_inS (es_var rfl hv) (es_w wFigs)).eq (by rw [mem_figs, sgn_w])⟩
    · refine rd_ret (d := aD (figs m w')) (es_non.eq ?_) fun v H3 e3 hv => q v H3 (e2.trans e3) hv
      rw [map_all] at hb
      have : figs m w' = none := by
        unfold figs
        rw [if_neg]
        intro z
        simp at hb z
        rcases hb with hb | ⟨x, hx, hb⟩
        · omega
        · rw [z.2 x hx] at hb
          cases hb
      rw [this]
      rfl
    · rw [map_all] at hb
      have hb' : (decide (1 ≤ w'.length) && decide (w'.length ≤ m) && w'.all isDig) = true := by
        simp at hb ⊢
        exact ⟨⟨by have := hb.1.1; omega, hb.1.2⟩, hb.2⟩
      obtain ⟨c, r, rfl⟩ : ∃ c r, w' = c :: r := by
        cases w' with
        | nil => simp at hb'
        | cons c r => exact ⟨c, r, rfl⟩
      have ht2 := htext.same e2
      refine rd_if (est_and (est_op (es_op od_eqW (es_op (od_ixS (by omega) atI_0) (es_var rfl ht2) es_int) (es_w [48]))) fun _ => (est_op (es_op od_neW (es_var rfl ht2) (es_w [48])))) (fun H3 e3 hb2 => ?_) (fun H3 e3 hb2 => ?_)
      · refine rd_ret (d := aD (figs m (c :: r))) (es_non.eq ?_) fun v H4 e4 hv => q v H4 ((e2.trans e3).trans e4) hv
        have : figs m (c :: r) = none := by
          unfold figs
          rw [if_pos hb', if_pos]
          simp at hb2 ⊢
          refine ⟨hb2.1, fun e => ?_⟩
          rcases hb2.2 with h | h
          · exact absurd e h
          · exact h
        rw [this]
        rfl
      · refine rd_ret (d := aD (figs m (c :: r))) ((es_b (cb_int ?_ ?_ ?_) (esa_cons (es_var rfl (ht2.same e3)) esa_nil)).eq ?_) fun v H4 e4 hv => q v H4 ((e2.trans e3).trans e4) hv
        · simp only [Bool.and_eq_true] at hb'
          exact hb'.2
        · simp
        · simp at hb' ⊢
          omega
        · have : figs m (c :: r) = some (NumText.digitsVal (c :: r)) := by
            unfold figs
            rw [if_pos hb', if_neg]
            simp at hb2 ⊢
            exact hb2
          rw [this]
          rfl
end
end K83
namespace K83
open PySem PySem.Spec PyProof.Rows L2
open C8 (Cal pe_c)
section
variable {P : Program} {w : World} {K : PySem.W.Frag} {mg : Str → Option Value} {base : Heap}
/-- number_in(text): most is 3 -/
theorem c_number_in (T : Tx w K mg) : Cal P w K mg base 1 "number_in" (spD K RNum) [.int 3] := by
  obtain ⟨fd, ok, F⟩ := fn_number_in (P := P) (base := base) T
  obtain ⟨ds, hv, hb⟩ := F.binds1 (ps := P_number_in) 1 0 (by simp) rfl fun TT kV doc pm an cdv ct us its h1 h2 => match us, its, h1, h2 with | [_], [_], _, _ => ⟨_, rfl, rfl⟩
  exact ⟨_, fd, P_number_in, ds, ok, T.g_number_in, F.kp, hb, hv⟩
/-- number_in(text, most = ..) -/
theorem k_number_in (T : Tx w K mg) : ∃ fd g, FnOk P w K mg base CX0 1 (He.ga K "number_in") fd P_number_in (spD K RNum) ∧ PySem.W.keepIn K (.ref (He.ga K "number_in")) = true ∧ KBn K fd P_number_in 1 ["most"] g (fun vs zs => vs ++ zs) := by
  obtain ⟨fd, ok, F⟩ := fn_number_in (P := P) (base := base) T
  obtain ⟨its, hb⟩ := F.kbindsD (ps := P_number_in) 1 ["most"] (fun us its ws => us ++ ws) (by simp) (fun r1 r2 r3 => r1.append r3) fun TT kV doc pm an cdv ct us its ws h1 h2 h3 => match us, its, ws, h1, h2, h3 with | [_], [_], [_], _, _, _ => ⟨_, rfl, rfl⟩
  exact ⟨fd, _, ok, F.kp, hb⟩
theorem es_cN {K : PySem.W.Frag} {σ : L2.St} {H : Hp} {R : List PyData → PyData → Prop} {E : XK} {t tk : TA} {ds es : List PyData} {d : PyData} {n m : Nat} (h : EsA K t σ H ds) (h2 : EsA K tk σ H es) (hn : ds.length = n) (hm : es.length = m) (hR : R (ds ++ es) d) :
    Es K (tCallN n m (spD K R) (fun vs zs => vs ++ zs) E t tk) σ H d := fun H1 e1 Q q =>
  h H1 e1 _ fun xs H2 e2 hx => h2 H2 (e1.trans e2) _ fun zs H3 e3 hz => ⟨by rw [hx.len, hn], by rw [hz.len, hm], _, d, (hx.same e3).app hz, hR, fun v H4 e4 hv => q v H4 ((e2.trans e3).trans e4) hv⟩
/-! ### the words of terms -/
def RWA (g : Wd → Ar → Option T) : List PyData → PyData → Prop := fun ds d => ∃ (w : Wd) (ar : Ar), ds = [wD w, .list (ar.map aD)] ∧ w.length ≤ 4000 ∧ d = oT (g w ar)
def RW1 (g : Wd → Option T) : List PyData → PyData → Prop := fun ds d => ∃ (w : Wd), ds = [wD w] ∧ w.length ≤ 4000 ∧ d = oT (g w)
theorem rwa_len {g : Wd → Ar → Option T} : ∀ vs H Q E, spD K (RWA g) vs H Q E → vs.length = 2 := spD_len fun ds d h => by obtain ⟨_, _, rfl, _⟩ := h; rfl
theorem rw1_len {g : Wd → Option T} : ∀ vs H Q E, spD K (RW1 g) vs H Q E → vs.length = 1 := spD_len fun ds d h => by obtain ⟨_, rfl, _⟩ := h; rfl
abbrev N_kind_word : List Str := ["word", "around", "height"]
abbrev P_kind_word : List Str := ["word", "around"]
theorem sc_kind_word : FnScope N_kind_word P_kind_word (defScope s_kind_word) := ⟨rfl, rfl, rfl, by decide +kernel, rfl, by decide +kernel, by decide +kernel⟩
def gKind (w : Wd) (_ : Ar) : Option T := (hgt (w.drop 1)).map T.kind
theorem a_kind_word (T : Tx w K mg) : C8.CalAt P w K mg base 2 (He.ga K "kind_word") (spD K (RWA gKind)) := by
  obtain ⟨fd, F⟩ := T.d_kind_word
  have c_height_in := c_height_in (P := P) (base := base) T
  refine calAt_of F (F.ok sc_kind_word rwa_len (fun cdv A outer s H vs Q E hr h => ⟨_, PSs.nox (pss_cons (ps_set (i := 2) sc_kind_word.nd rfl (Or.inl rfl) (pe_c c_height_in hr (by decide) rfl (pa_cons (pe_slice C8.sl_txt (pv 0) (po_some pe_int) po_none) pa_nil)))
    (pss_one (ps_ret (pe_ifExp (pt_cmpR op_isK (pv 2) pe_non (nomark _)) pe_non (pe_tup (pa_cons pe_str (pa_cons (pv 2) pa_nil))))))), ?_⟩))
    fun _ _ _ _ _ _ us hl => match us, hl with | [_, _], _ => rfl
  obtain ⟨ds, d, hvs, ⟨w', ar, rfl, hl, rfl⟩, q⟩ := h
  cases hvs with
  | cons hword hvs =>
    obtain ⟨v2, rfl, haround⟩ := hvs.one_inv
    refine rd_set (es_c (esa_cons (es_sl (sl_1 hl) (es_var rfl hword) eso_int eso_no) esa_nil) ⟨w'.drop 1, rfl, by simp; omega, rfl⟩) fun vh H2 e2 hheight => ?_
    refine rd_ret (d := oT (gKind w' ar)) (es_if (est_op (es_op od_isN (es_var rfl hheight) es_non)) (fun hc => es_non.eq ?_) (fun hc => ((es_tup (esa_cons (es_w [107, 105, 110, 100]) (esa_cons (es_var rfl hheight) esa_nil)))).eq ?_)) fun v H3 e3 hv => q v H3 (e2.trans e3) hv
    · rw [aD_none] at hc
      cases e : hgt (w'.drop 1) with
      | none => unfold gKind; rw [e]; rfl
      | some n => rw [e] at hc; cases hc
    · rw [aD_none] at hc
      cases e : hgt (w'.drop 1) with
      | none => rw [e] at hc; cases hc
      | some n => unfold gKind; rw [e]; rfl
abbrev N_name_word : List Str := ["word", "around"]
theorem sc_name_word : FnScope N_name_word N_name_word (defScope s_name_word) := ⟨rfl, rfl, rfl, by decide +kernel, rfl, by decide +kernel, by decide +kernel⟩
def gName' (w : Wd) (_ : Ar) : Option T := if isName (w.drop 1) = true then some (.name (w.drop 1)) else none
theorem a_name_word (T : Tx w K mg) : C8.CalAt P w K mg base 2 (He.ga K "name_word") (spD K (RWA gName')) := by
  obtain ⟨fd, F⟩ := T.d_name_word
  have c_is_name := c_is_name (P := P) (base := base) T
  refine calAt_of F (F.ok sc_name_word rwa_len (fun cdv A outer s H vs Q E hr h => ⟨_, PSs.nox (pss_one (ps_ret (pe_ifExp (pt_val (pe_c c_is_name hr (by decide) rfl (pa_cons (pe_slice C8.sl_txt (pv 0) (po_some pe_int) po_none) pa_nil))) (pe_tup (pa_cons pe_str (pa_cons (pe_slice C8.sl_txt (pv 0) (po_some pe_int) po_none) pa_nil))) pe_non))), ?_⟩))
    fun _ _ _ _ _ _ us hl => match us, hl with | [_, _], _ => rfl
  obtain ⟨ds, d, hvs, ⟨w', ar, rfl, hl, rfl⟩, q⟩ := h
  cases hvs with
  | cons hword hvs =>
    refine rd_ret (d := oT (gName' w' ar)) (es_if (est_val (es_c (esa_cons (es_sl (sl_1 hl) (es_var rfl hword) eso_int eso_no) esa_nil) ⟨w'.drop 1, rfl, by simp; omega, rfl⟩)) (fun hc => ((es_tup (esa_cons (es_w [110, 97, 109, 101]) (esa_cons (es_sl (sl_1 hl) (es_var rfl hword) eso_int eso_no) esa_nil)))).eq ?_) (fun hc => es_non.eq ?_)) q
    · unfold gName'; rw [if_pos hc]; rfl
    · unfold gName'; rw [if_neg (by rw [hc]; simp)]; rfl
abbrev N_maker_word : List Str := ["word", "number", "name", "mark", "figures"]
abbrev P_maker_word : List Str := ["word"]
theorem sc_maker_word : FnScope N_maker_word P_maker_word (defScope s_maker_word) := ⟨rfl, rfl, rfl, by decide +kernel, rfl, by decide +kernel, by decide +kernel⟩
/-- the same where the mark is in it -/
def RWm (c : Nat) (g : Wd → Option T) : List PyData → PyData → Prop := fun ds d => ∃ (w : Wd), ds = [wD w] ∧ w.length ≤ 4000 ∧ c ∈ w ∧ d = oT (g w)
theorem rwm_len {c : Nat} {g : Wd → Option T} : ∀ vs H Q E, spD K (RWm c g) vs H Q E → vs.length = 1 := spD_len fun ds d h => by obtain ⟨_, rfl, _⟩ := h; rfl
theorem c_maker_word (T : Tx w K mg) : Cal P w K mg base 2 "maker_word" (spD K (RWm 35 makerOf)) [] := by
  obtain ⟨fd, F⟩ := T.d_maker_word
  obtain ⟨tMOST_FIGURES, hMOST_FIGURES⟩ := T.i_MOST_FIGURES
  have c_is_name := c_is_name (P := P) (base := base) T
  obtain ⟨fn, g, kn, kk, kb⟩ := k_number_in (P := P) (base := base) T
  refine cal_of F (F.ok sc_maker_word rwm_len (fun cdv A outer s H vs Q E hr h => ⟨_, PSs.nox (pss_cons (ps_asg (pe_partitionK (pv 0) pe_str) (pg_tup (n := 3) (by rfl) (pgs_cons (pg_name (i := 2) sc_maker_word.nd rfl (Or.inl rfl)) (pgs_cons (pg_name (i := 3) sc_maker_word.nd rfl (Or.inl rfl)) (pgs_cons (pg_name (i := 4) sc_maker_word.nd rfl (Or.inl rfl)) pgs_nil)))))
    (pss_cons (ps_set (i := 1) sc_maker_word.nd rfl (Or.inl rfl) (pe_callN kn (hr.mono (by decide)) (by rfl) T.g_number_in kk kb (E := C8.E0) C8.pass0 (pa_cons (pv 4) pa_nil) (pk_cons (gI hMOST_FIGURES) pk_nil)))
    (pss_one (ps_ret (pe_ifExp (PW.pt (pw_and (pt_val (pe_c c_is_name hr (by decide) rfl (pa_cons (pv 2) pa_nil))) (pw_and1 (pt_cmpR op_isNotK (pv 1) pe_non (nomark _))))) (pe_tup (pa_cons pe_str (pa_cons (pv 2) (pa_cons (pv 1) pa_nil)))) pe_non))))), ?_⟩)) T.g_maker_word
    fun _ _ _ _ _ _ us hl => match us, hl with | [_], _ => rfl
  obtain ⟨ds, d, hvs, ⟨w', rfl, hl, hm, rfl⟩, q⟩ := h
  obtain ⟨v, rfl, hword⟩ := hvs.one_inv
  have l1 := ahead_len 35 w'
  have l2 := behind_len 35 w'
  refine rd_set3 (es_m1 (md_part hm hl) (es_var rfl hword) (es_w [35])) fun v1 v2 v3 H2 e2 hname hmark hfigures => ?_
  refine rd_set (es_cN (esa_cons (es_var rfl hfigures) esa_nil) (esa_cons es_int esa_nil) rfl rfl ⟨behind 35 w', 30, rfl, by omega, by decide, rfl⟩) fun v4 H3 e3 hnumber => ?_
  refine rd_ret (d := oT (makerOf w')) (es_if (est_and (est_val (es_c (esa_cons (es_var rfl (hname.same e3)) esa_nil) ⟨ahead 35 w', rfl, by omega, rfl⟩)) fun _ => (est_op (es_op od_notN (es_var rfl hnumber) es_non))) (fun hc => ((es_tup (esa_cons (es_w [109, 97, 107, 101, 114]) (esa_cons (es_var rfl (hname.same e3)) (esa_cons (es_var rfl hnumber) esa_nil))))).eq ?_) (fun hc => es_non.eq ?_)) fun v H4 e4 hv => q v H4 ((e2.trans e3).trans e4) hv
  · rw [aD_none] at hc
    simp at hc
    obtain ⟨n, hn⟩ := Option.isSome_iff_exists.mp hc.2
    unfold makerOf; rw [if_pos hc.1, hn]; rfl
  · rw [aD_none] at hc
    simp at hc
    unfold makerOf
    split
    · rename_i h1
      rw [hc h1]
      rfl
    · rfl
abbrev N_eater_word : List Str := ["word", "height", "name", "mark", "figures"]
abbrev P_eater_word : List Str := ["word"]
theorem sc_eater_word : FnScope N_eater_word P_eater_word (defScope s_eater_word) := ⟨rfl, rfl, rfl, by decide +kernel, rfl, by decide +kernel, by decide +kernel⟩
theorem c_eater_word (T : Tx w K mg) : Cal P w K mg base 2 "eater_word" (spD K (RWm 33 eaterOf)) [] := by
  obtain ⟨fd, F⟩ := T.d_eater_word
  have c_is_name := c_is_name (P := P) (base := base) T
  have c_height_in := c_height_in (P := P) (base := base) T
  refine cal_of F (F.ok sc_eater_word rwm_len (fun cdv A outer s H vs Q E hr h => ⟨_, PSs.nox (pss_cons (ps_asg (pe_partitionK (pv 0) pe_str) (pg_tup (n := 3) (by rfl) (pgs_cons (pg_name (i := 2) sc_eater_word.nd rfl (Or.inl rfl)) (pgs_cons (pg_name (i := 3) sc_eater_word.nd rfl (Or.inl rfl)) (pgs_cons (pg_name (i := 4) sc_eater_word.nd rfl (Or.inl rfl)) pgs_nil)))))
    (pss_cons (ps_set (i := 1) sc_eater_word.nd rfl (Or.inl rfl) (pe_c c_height_in hr (by decide) rfl (pa_cons (pv 4) pa_nil)))
    (pss_one (ps_ret (pe_ifExp (PW.pt (pw_and (pt_val (pe_c c_is_name hr (by decide) rfl (pa_cons (pv 2) pa_nil))) (pw_and1 (pt_cmpR op_isNotK (pv 1) pe_non (nomark _))))) (pe_tup (pa_cons pe_str (pa_cons (pv 2) (pa_cons (pv 1) pa_nil)))) pe_non))))), ?_⟩)) T.g_eater_word
    fun _ _ _ _ _ _ us hl => match us, hl with | [_], _ => rfl
  obtain ⟨ds, d, hvs, ⟨w', rfl, hl, hm, rfl⟩, q⟩ := h
  obtain ⟨v, rfl, hword⟩ := hvs.one_inv
  have l1 := ahead_len 33 w'
  have l2 := behind_len 33 w'
  refine rd_set3 (es_m1 (md_part hm hl) (es_var rfl hword) (es_w [33])) fun v1 v2 v3 H2 e2 hname hmark hfigures => ?_
  refine rd_set (es_c (esa_cons (es_var rfl hfigures) esa_nil) ⟨behind 33 w', rfl, by omega, rfl⟩) fun v4 H3 e3 hnumber => ?_
  refine rd_ret (d := oT (eaterOf w')) (es_if (est_and (est_val (es_c (esa_cons (es_var rfl (hname.same e3)) esa_nil) ⟨ahead 33 w', rfl, by omega, rfl⟩)) fun _ => (est_op (es_op od_notN (es_var rfl hnumber) es_non))) (fun hc => ((es_tup (esa_cons (es_w [101, 97, 116, 101, 114]) (esa_cons (es_var rfl (hname.same e3)) (esa_cons (es_var rfl hnumber) esa_nil))))).eq ?_) (fun hc => es_non.eq ?_)) fun v H4 e4 hv => q v H4 ((e2.trans e3).trans e4) hv
  · rw [aD_none] at hc
    simp at hc
    obtain ⟨n, hn⟩ := Option.isSome_iff_exists.mp hc.2
    unfold eaterOf; rw [if_pos hc.1, hn]; rfl
  · rw [aD_none] at hc
    simp at hc
    unfold eaterOf
    split
    · rename_i h1
      rw [hc h1]
      rfl
    · rfl
abbrev N_place_word : List Str := ["word", "around", "number", "nearest"]
abbrev P_place_word : List Str := ["word", "around"]
theorem sc_place_word : FnScope N_place_word P_place_word (defScope s_place_word) := ⟨rfl, rfl, rfl, by decide +kernel, rfl, by decide +kernel, by decide +kernel⟩
def gPlace (w : Wd) (ar : Ar) : Option T := (match figs 3 (w.drop 1) with
  | none => none
  | some n => if some n ∈ ar then some (ar.reverse.idxOf (some n)) else none).map T.at
theorem es_rev {K : PySem.W.Frag} {σ : L2.St} {H : Hp} {t : TE} {ds : List PyData} (h : Es K t σ H (.list ds)) : Es K (tRevL K t) σ H (.list ds.reverse) := fun H1 e1 Q q => h H1 e1 _ fun v H2 e2 hv => by
  cases hv with
  | lst h r => exact ⟨_, _, rfl, SqL.of h, fun p hp => q _ _ (e2.trans (same_new hp _)) (.lst upd_same (r.rev.same (same_new hp _)))⟩
theorem c_place_word (T : Tx w K mg) : Cal P w K mg base 2 "place_word" (spD K (RWA gPlace)) [] := by
  obtain ⟨fd, F⟩ := T.d_place_word
  have c_number_in := c_number_in (P := P) (base := base) T
  refine cal_of F (F.ok sc_place_word rwa_len (fun cdv A outer s H vs Q E hr h => ⟨_, PSs.nox (pss_cons (ps_set (i := 2) sc_place_word.nd rfl (Or.inl rfl) (pe_c c_number_in hr (by decide) rfl (pa_cons (pe_slice C8.sl_txt (pv 0) (po_some pe_int) po_none) pa_nil)))
    (pss_cons (ps_if (PW.pt (pw_or (pt_cmpR op_isK (pv 2) pe_non (nomark _)) (pw_or1 (pt_cmpR (op_notInK (K := K)) (pv 2) (pv 1) (by rfl))))) (pss_one (ps_ret pe_non)) pss_nil)
    (pss_cons (ps_set (i := 3) sc_place_word.nd rfl (Or.inl rfl) (pe_revL (pv 1)))
    (pss_one (ps_ret (pe_tup (pa_cons pe_str (pa_cons (pe_bm PySem.F.plainAttrs_list PySem.F.slot_list_index PySem.F.type_list_index (mt_indexK (K := K)) (pv 3) (pa_cons (pv 2) pa_nil)) pa_nil)))))))), ?_⟩)) T.g_place_word
    fun _ _ _ _ _ _ us hl => match us, hl with | [_, _], _ => rfl
  obtain ⟨ds, d, hvs, ⟨w', ar, rfl, hl, rfl⟩, q⟩ := h
  cases hvs with
  | cons hword hvs =>
    obtain ⟨v2, rfl, haround⟩ := hvs.one_inv
    refine rd_set (es_call (dds := [.int 3]) (fun _ => .one (.int _)) (esa_cons (es_sl (sl_1 hl) (es_var rfl hword) eso_int eso_no) esa_nil) ⟨w'.drop 1, 3, rfl, by simp; omega, by decide, rfl⟩) fun vn H2 e2 hnumber => ?_
    cases hf : figs 3 (w'.drop 1) with
    | none =>
      rw [hf] at hnumber
      refine rd_if (b := true) ((est_or (b := false) (est_op (es_op od_isN (es_var rfl hnumber) es_non)) fun hc => by simp [isNoneD, aD] at hc).eq rfl) (fun H3 e3 _ => ?_) (fun _ _ hb => by cases hb)
      exact rd_ret (d := oT (gPlace w' ar)) (es_non.eq (by unfold gPlace; rw [hf]; rfl)) fun v H4 e4 hv => q v H4 ((e2.trans e3).trans e4) hv
    | some n =>
      rw [hf] at hnumber
      refine rd_if (est_or (est_op (es_op od_isN (es_var rfl hnumber) es_non)) fun _ => (est_op (es_op od_notInAr (es_var rfl hnumber) (es_var rfl (haround.same e2))))) (fun H3 e3 hb => ?_) (fun H3 e3 hb => ?_)
      · simp [isNoneD, aD] at hb
        exact rd_ret (d := oT (gPlace w' ar)) (es_non.eq (by unfold gPlace; simp only [hf, if_neg hb]; rfl)) fun v H4 e4 hv => q v H4 ((e2.trans e3).trans e4) hv
      · simp [isNoneD, aD] at hb
        refine rd_set (es_rev (es_var rfl (haround.same (e2.trans e3)))) fun vr H4 e4 hr2 => ?_
        rw [← List.map_reverse] at hr2
        refine rd_ret (d := oT (gPlace w' ar)) ((es_tup (esa_cons (es_w [97, 116]) (esa_cons (es_m (T := "list") (md_index (List.mem_reverse.mpr hb)) (es_var rfl hr2) (esa_cons (es_var rfl (hnumber.same (e3.trans e4))) esa_nil) ty_list) esa_nil))).eq ?_) fun v H5 e5 hv => q v H5 (((e2.trans e3).trans e4).trans e5) hv
        unfold gPlace; simp only [hf, if_pos hb]; rfl
end
end K83
namespace K83
open PySem PySem.Spec PyProof.Rows L2
open C8 (Cal pe_c)
/-! ### defs that may raise -/
structure CalR (P : Program) (w : World) (K : PySem.W.Frag) (mg : Str → Option Value) (base : Heap) (k : Nat) (x : Str) (sp : Sp) : Prop where
  ex : ∃ (f : Addr) (fd : FuncData) (ps : List Str), FnOk P w K mg base (L2.CX P w) k f fd ps sp ∧ mg x = some (.ref f) ∧ PySem.W.keepIn K (.ref f) = true ∧ Binds K fd ps []
section
variable {X : Cx} {k j : Nat} {x : Str} {sp : Sp} {p pos : Pos} {e : Expr} {es : List Expr} {t : TA} {W : WX}
/-- called where what it raises goes on -/
theorem pe_cr (c : CalR X.prog X.w X.K X.mg X.base k x sp) (hr : Room j X.A) (hk : k ≤ j) (hg : Gl X x) (tk : Takes X W) (ha : PA X (e :: es) t)
    (hdb : (x == ("__debug__" : Str)) = false := by decide) (he : starEach (e :: es) X.env = (false, eval e X.env) :: starEach es X.env := by rfl) (hpl : (backTo pos (starEach es X.env)).any (·.1) = false := by rfl) :
    PE X (.Call (.Name x p) (e :: es) [] pos) (tCallS sp (WE W) t) := by
  obtain ⟨f, fd, ps, F, hm, kp, b⟩ := c.ex
  exact pe_callS F (hr.mono hk) hg hm kp b (fun σ => passAt tk σ) ha hdb he hpl
end
section
variable {P : Program} {w : World} {K : PySem.W.Frag} {mg : Str → Option Value} {base : Heap}
theorem calR_of {x : Str} {params : Arguments} {body : List Stmt} {scope : Scope} {fd : FuncData} {ps : List Str} {k : Nat} {sp : Sp} (F : FunD K x x params body scope [] [] (He.ga K x) fd) (ok : FnOk P w K mg base (L2.CX P w) k (He.ga K x) fd ps sp) (g : mg x = some (.ref (He.ga K x)))
    (h : ∀ (kV doc pm : Value) (an : Option Addr) (cdv ct : Value) (us : List Value), us.length = ps.length → bindArgs (PySem.W.fnOf x x params body scope .none kV doc pm an cdv ct) ⟨us, []⟩ = pure (ps.zip us)) : CalR P w K mg base k x sp :=
  ⟨_, _, ps, ok, g, F.kp, F.bindsN h⟩
/-! ### the exceptions -/
def spInit (K : PySem.W.Frag) (C : Addr) (fl : Str) : Sp := fun vs H Q _ => ∃ a v, vs = [.ref a, v] ∧ H a = some (exo a C none) ∧ OexC K C ∧ PySem.W.findIn K (.ref C) fl = some none ∧ ∀ dx, H dx = none → dx ≠ a → Q .non (upd (upd H dx (exd dx [(fl, v)])) a (exo a C (some dx)))
abbrev N_init : List Str := ["self", "found"]
abbrev N_initA : List Str := ["self", "at"]
theorem sc_initG : FnScope N_init N_init (defScope m_NoGround_init) := ⟨rfl, rfl, rfl, by decide +kernel, rfl, by decide +kernel, by decide +kernel⟩
theorem sc_initR : FnScope N_init N_init (defScope m_NoRow_init) := ⟨rfl, rfl, rfl, by decide +kernel, rfl, by decide +kernel, by decide +kernel⟩
theorem sc_initD : FnScope N_init N_init (defScope m_Doubled_init) := ⟨rfl, rfl, rfl, by decide +kernel, rfl, by decide +kernel, by decide +kernel⟩
theorem sc_initT : FnScope N_init N_init (defScope m_NoText_init) := ⟨rfl, rfl, rfl, by decide +kernel, rfl, by decide +kernel, by decide +kernel⟩
theorem sc_initS : FnScope N_initA N_initA (defScope m_NoSign_init) := ⟨rfl, rfl, rfl, by decide +kernel, rfl, by decide +kernel, by decide +kernel⟩
theorem sc_initL : FnScope N_init N_init (defScope m_NoLine_init) := ⟨rfl, rfl, rfl, by decide +kernel, rfl, by decide +kernel, by decide +kernel⟩
/-- C's __init__, as it is called -/
def IniOk (P : Program) (w : World) (K : PySem.W.Frag) (mg : Str → Option Value) (base : Heap) (x fl : Str) : Prop := ∃ fd N, FnOk P w K mg base C8.CX0 1 (He.ma K (He.ga K x) "__init__") fd N (spInit K (He.ga K x) fl) ∧ Binds K fd N []
theorem ini_len {C : Addr} {fl : Str} : ∀ vs H Q E, spInit K C fl vs H Q E → vs.length = 2 := fun vs H Q E h => by
  obtain ⟨a, v, rfl, _⟩ := h
  rfl
theorem ini_G (T : Tx w K mg) : IniOk P w K mg base "NoGround" "found" := by
  obtain ⟨fd, F⟩ := T.d_NoGround_init
  refine ⟨fd, N_init, F.ok sc_initG ini_len (fun cdv A outer s H vs Q E hr h => ⟨_, PSs.nox (pss_one (ps_ost (pv 0) (pv 1))), ?_⟩), F.bindsN fun _ _ _ _ _ _ us hl => match us, hl with | [_, _], _ => rfl⟩
  obtain ⟨a, v, rfl, ha, ho, hf, q⟩ := h
  exact ⟨_, rfl, _, rfl, a, _, rfl, ho, hf, .inl ⟨ha, q⟩⟩
theorem ini_R (T : Tx w K mg) : IniOk P w K mg base "NoRow" "found" := by
  obtain ⟨fd, F⟩ := T.d_NoRow_init
  refine ⟨fd, N_init, F.ok sc_initR ini_len (fun cdv A outer s H vs Q E hr h => ⟨_, PSs.nox (pss_one (ps_ost (pv 0) (pv 1))), ?_⟩), F.bindsN fun _ _ _ _ _ _ us hl => match us, hl with | [_, _], _ => rfl⟩
  obtain ⟨a, v, rfl, ha, ho, hf, q⟩ := h
  exact ⟨_, rfl, _, rfl, a, _, rfl, ho, hf, .inl ⟨ha, q⟩⟩
theorem ini_D (T : Tx w K mg) : IniOk P w K mg base "Doubled" "found" := by
  obtain ⟨fd, F⟩ := T.d_Doubled_init
  refine ⟨fd, N_init, F.ok sc_initD ini_len (fun cdv A outer s H vs Q E hr h => ⟨_, PSs.nox (pss_one (ps_ost (pv 0) (pv 1))), ?_⟩), F.bindsN fun _ _ _ _ _ _ us hl => match us, hl with | [_, _], _ => rfl⟩
  obtain ⟨a, v, rfl, ha, ho, hf, q⟩ := h
  exact ⟨_, rfl, _, rfl, a, _, rfl, ho, hf, .inl ⟨ha, q⟩⟩
theorem ini_T (T : Tx w K mg) : IniOk P w K mg base "NoText" "found" := by
  obtain ⟨fd, F⟩ := T.d_NoText_init
  refine ⟨fd, N_init, F.ok sc_initT ini_len (fun cdv A outer s H vs Q E hr h => ⟨_, PSs.nox (pss_one (ps_ost (pv 0) (pv 1))), ?_⟩), F.bindsN fun _ _ _ _ _ _ us hl => match us, hl with | [_, _], _ => rfl⟩
  obtain ⟨a, v, rfl, ha, ho, hf, q⟩ := h
  exact ⟨_, rfl, _, rfl, a, _, rfl, ho, hf, .inl ⟨ha, q⟩⟩
theorem ini_S (T : Tx w K mg) : IniOk P w K mg base "NoSign" "at" := by
  obtain ⟨fd, F⟩ := T.d_NoSign_init
  refine ⟨fd, N_initA, F.ok sc_initS ini_len (fun cdv A outer s H vs Q E hr h => ⟨_, PSs.nox (pss_one (ps_ost (pv 0) (pv 1))), ?_⟩), F.bindsN fun _ _ _ _ _ _ us hl => match us, hl with | [_, _], _ => rfl⟩
  obtain ⟨a, v, rfl, ha, ho, hf, q⟩ := h
  exact ⟨_, rfl, _, rfl, a, _, rfl, ho, hf, .inl ⟨ha, q⟩⟩
theorem ini_L (T : Tx w K mg) : IniOk P w K mg base "NoLine" "found" := by
  obtain ⟨fd, F⟩ := T.d_NoLine_init
  refine ⟨fd, N_init, F.ok sc_initL ini_len (fun cdv A outer s H vs Q E hr h => ⟨_, PSs.nox (pss_one (ps_ost (pv 0) (pv 1))), ?_⟩), F.bindsN fun _ _ _ _ _ _ us hl => match us, hl with | [_, _], _ => rfl⟩
  obtain ⟨a, v, rfl, ha, ho, hf, q⟩ := h
  exact ⟨_, rfl, _, rfl, a, _, rfl, ho, hf, .inl ⟨ha, q⟩⟩
/-- the way out by an exception of the class x, its field holding v -/
def BadX (K : PySem.W.Frag) (H : Hp) (x fl : Str) (v : V) (E : XK) : Prop := ∀ d H', Same H H' → H d = none → H' d = some (.xd [(fl, v)]) → E (.ref (He.ga K x)) (some d) H'
theorem BadX.same {H H' : Hp} {x fl : Str} {v : V} {E : XK} (h : BadX K H x fl v E) (e : Same H H') : BadX K H' x fl v E := fun d H2 g n q => h d H2 (e.trans g) (e.free n) q
/-- a reading, closed upward -/
def upT (te : TE) : TE := fun σ H Q => ∃ Q0 : VK, te σ H Q0 ∧ ∀ v H1, Q0 v H1 → Q v H1
theorem pe_up {X : Cx} {e : Expr} {te : TE} (h : PE X e te) : PE X e (upT te) := ⟨fun pins s σ H Q I q => by
  obtain ⟨Q0, q1, q2⟩ := q
  exact thn (h.run pins s σ H Q0 I q1) fun u s1 ⟨x, H1, I1, r1, z⟩ => ⟨x, H1, I1, r1, q2 _ _ z⟩⟩
def tBad (K : PySem.W.Frag) (x fl : Str) (te : TE) (W : WX) : TS := fun _ σ H => te σ H fun v H1 => BadX K H1 x fl v fun cls d H' => W cls d σ H'
theorem PS.mono {X : Cx} {s : Stmt} {t t' : TS} (h : PS X s t) (m : ∀ D σ H, t' D σ H → t D σ H) : PS X s t' := ⟨fun pins s σ H D I q => h.run pins s σ H D I (m D σ H q)⟩
theorem ps_bad {X : Cx} {x fl : Str} {e : Expr} {te : TE} {W : WX} {p pos pos2 : Pos} {j : Nat} (hc : X.calm = true) (tk : Takes X W) (ini : IniOk X.prog X.w X.K X.mg X.base x fl) (f : ExcF X.K x fl) (hr : Room j X.A) (hj : 2 ≤ j) (hg : Gl X x) (hm : X.mg x = some (.ref (He.ga X.K x))) (he : PE X e te)
    (hdb : (x == ("__debug__" : Str)) = false := by decide) (hs : starEach (e :: []) X.env = (false, eval e X.env) :: starEach [] X.env := by rfl) (hpl : (backTo pos (starEach [] X.env)).any (·.1) = false := by rfl) :
    PS X (.Raise (some (.Call (.Name x p) [e] [] pos)) none pos2) (tBad X.K x fl te W) := by
  obtain ⟨fd, N, F, b⟩ := ini
  refine PS.mono (ps_raise hc tk (pmk_oex f.o f.i f.t F (hr.mono hj) b .nil C8.pass0 hg hm (pa_cons (pe_up he) pa_nil hs) hdb hs hpl)) (fun D σ H h => ⟨_, h, fun v H1 q => ⟨Nat.succ_le_succ (Nat.zero_le 999), fun a ha => ⟨a, v, rfl, upd_same, f.o, f.no, fun dx hd hne => ⟨rfl, dx, [(fl, v)], upd_same, ?_, ?_, ?_⟩⟩⟩⟩)
  · rw [upd_ne hne, upd_same]
  · rw [upd_ne hne] at hd
    exact hd
  · rw [upd_ne hne] at hd
    refine q dx _ (fun c o e => ?_) hd upd_same
    have n1 : c ≠ dx := ne_of_none e hd
    have n2 : c ≠ a := ne_of_none e ha
    rw [upd_ne n1, del_ne n2, upd_ne n2, upd_ne n1, upd_ne n2]
    exact e
/-- reads in which nothing is returned: the exception's field -/
theorem rd_bad {K : PySem.W.Frag} {σ : L2.St} {H : Hp} {x fl : Str} {te : TE} {W : WX} {D : L2.Ends} {d : PyData} (h : Es K te σ H d) (q : ∀ v H2, Same H H2 → Dt K H2 v d → BadX K H2 x fl v fun cls d H' => W cls d σ H') : tBad K x fl te W D σ H := h.at q
end
end K83
namespace K83
open PySem PySem.Spec PyProof.Rows L2
open C8 (Cal pe_c)
section
variable {K : PySem.W.Frag} {w' : World} {σ : L2.St} {H : Hp} {t te : TE} {tr : TA} {d d1 d2 d3 : PyData} {ds : List PyData} {a f1 f2 : Addr} {v : V} {i : Nat} {D : L2.Ends}
theorem rd_setD {z : Str} (h : Es K t σ H (.str z)) (e : KDct K w' a z v) (q : ∀ H2, Same H H2 → D.nx (σ.set i (some v)) H2) : tAsg (tOp (rIxD K w') (tC (.ref a)) t) (gName i) D σ H := h.at fun x H2 e2 hx => by
  cases hx
  exact ⟨a, _, v, rfl, rfl, e, q H2 e2⟩
theorem rd_cv1 {R1 : List PyData → PyData → Prop} {sp2 : Sp} (hs : σ[i]? = some (some (.ref f1))) (h : EsA K tr σ H ds) (hR : R1 ds d) (q : Af K H d D.rt) : tRet (C8.tCallV i f1 f2 (spD K R1) sp2 tr) D σ H :=
  .inl ⟨hs, h.at fun vs H2 e2 hv => ⟨ds, d, hv, hR, fun v H3 e3 h3 => q v H3 (e2.trans e3) h3⟩⟩
theorem rd_cv2 {R2 : List PyData → PyData → Prop} {sp1 : Sp} (hs : σ[i]? = some (some (.ref f2))) (h : EsA K tr σ H ds) (hR : R2 ds d) (q : Af K H d D.rt) : tRet (C8.tCallV i f1 f2 sp1 (spD K R2) tr) D σ H :=
  .inr ⟨hs, h.at fun vs H2 e2 hv => ⟨ds, d, hv, hR, fun v H3 e3 h3 => q v H3 (e2.trans e3) h3⟩⟩
end
section
variable {P : Program} {w : World} {K : PySem.W.Frag} {mg : Str → Option Value} {base : Heap}
/-! ### word_at, binder_number, single_word -/
def RWordAt : List PyData → PyData → Prop := fun ds d => ∃ (ws : List Wd) (k : Nat), ds = [.list (wsD ws), .int k] ∧ d = wD (hd (ws.drop k))
abbrev N_word_at : List Str := ["words", "at"]
theorem sc_word_at : FnScope N_word_at N_word_at (defScope s_word_at) := ⟨rfl, rfl, rfl, by decide +kernel, rfl, by decide +kernel, by decide +kernel⟩
theorem hd_get {ws : List Wd} {k : Nat} (h : k < ws.length) : ws[k]? = some (hd (ws.drop k)) := by
  rw [hd_drop, List.getElem?_eq_getElem h]
  rfl
theorem hd_out {ws : List Wd} {k : Nat} (h : ¬ k < ws.length) : hd (ws.drop k) = [] := by
  rw [List.drop_of_length_le (by omega)]
  rfl
theorem wsD_get {ws : List Wd} {k : Nat} {u : Wd} (h : ws[k]? = some u) : (wsD ws)[k]? = some (wD u) := by simp [wsD, h]
theorem wsD_len (ws : List Wd) : (wsD ws).length = ws.length := by simp [wsD]
theorem c_word_at (T : Tx w K mg) : Cal P w K mg base 1 "word_at" (spD K RWordAt) [] := by
  obtain ⟨fd, F⟩ := T.d_word_at
  refine cal_of F (F.ok sc_word_at (spD_len fun ds d h => by obtain ⟨_, _, rfl, _⟩ := h; rfl) (fun cdv A outer s H vs Q E hr h => ⟨_, PSs.nox (pss_one (ps_ret (pe_ifExp (pt_cmpR op_lt (pv 1) (pe_callB (call_lenK (K := K)) rfl T.n_len PySem.boot_len (pa_cons (pv 0) pa_nil)) (nomark _)) (pe_ix (ix_listK (K := K)) (pv 0) (pv 1) (fun _ _ => rfl)) pe_str))), ?_⟩)) T.g_word_at
    fun _ _ _ _ _ _ us hl => match us, hl with | [_, _], _ => rfl
  obtain ⟨ds, d, hvs, ⟨ws, k, rfl, rfl⟩, q⟩ := h
  cases hvs with
  | cons hwords hvs =>
    obtain ⟨v2, rfl, hat⟩ := hvs.one_inv
    refine rd_ret (es_if (est_op (es_op od_cmp (es_var rfl hat) (es_b cb_lenL (esa_cons (es_var rfl hwords) esa_nil)))) (fun hc => (es_op (od_ixL (atI_n (wsD_get (hd_get ?_)))) (es_var rfl hwords) (es_var rfl hat))) (fun hc => (es_w []).eq ?_)) q
    · simp [wsD_len] at hc
      exact hc
    · simp [wsD_len] at hc
      rw [hd_out (by omega)]
abbrev N_binder_number : List Str := ["word"]
theorem sc_binder_number : FnScope N_binder_number N_binder_number (defScope s_binder_number) := ⟨rfl, rfl, rfl, by decide +kernel, rfl, by decide +kernel, by decide +kernel⟩
def RBnd : List PyData → PyData → Prop := fun ds d => ∃ w : Wd, ds = [wD w] ∧ w.length ≤ 4000 ∧ d = aD (bnd w)
theorem take1 {w : Wd} {c : Nat} : (w.take 1 = [c]) ↔ w.head? = some c := by
  cases w <;> simp
theorem c_binder_number (T : Tx w K mg) : Cal P w K mg base 2 "binder_number" (spD K RBnd) [] := by
  obtain ⟨fd, F⟩ := T.d_binder_number
  have c_number_in := c_number_in (P := P) (base := base) T
  refine cal_of F (F.ok sc_binder_number (spD_len fun ds d h => by obtain ⟨_, rfl, _⟩ := h; rfl) (fun cdv A outer s H vs Q E hr h => ⟨_, PSs.nox (pss_one (ps_ret (pe_ifExp (pt_cmpR op_eq (pe_slice C8.sl_txt (pv 0) po_none (po_some pe_int)) pe_str (nomark _)) (pe_c c_number_in hr (by decide) rfl (pa_cons (pe_slice C8.sl_txt (pv 0) (po_some pe_int) po_none) pa_nil)) pe_non))), ?_⟩)) T.g_binder_number
    fun _ _ _ _ _ _ us hl => match us, hl with | [_], _ => rfl
  obtain ⟨ds, d, hvs, ⟨w', rfl, hl, rfl⟩, q⟩ := h
  obtain ⟨v, rfl, hword⟩ := hvs.one_inv
  refine rd_ret (es_if (est_op (es_op od_eqW (es_sl (sl_to1 hl) (es_var rfl hword) eso_no eso_int) (es_w [120]))) (fun hc => (es_call (dds := [.int 3]) (fun _ => .one (.int _)) (esa_cons (es_sl (sl_1 hl) (es_var rfl hword) eso_int eso_no) esa_nil) ⟨w'.drop 1, 3, rfl, by simp; omega, by decide, ?_⟩)) (fun hc => es_non.eq ?_)) q
  · rw [decide_eq_true_eq, take1] at hc
    unfold bnd
    rw [if_pos hc]
  · rw [decide_eq_false_iff_not, take1] at hc
    unfold bnd
    rw [if_neg hc]
    rfl
abbrev N_single_word : List Str := ["word", "around", "look"]
abbrev P_single_word : List Str := ["word", "around"]
theorem sc_single_word : FnScope N_single_word P_single_word (defScope s_single_word) := ⟨rfl, rfl, rfl, by decide +kernel, rfl, by decide +kernel, by decide +kernel⟩
theorem gPlace_lone {w : Wd} {ar : Ar} (h : w.head? = some 120) : gPlace w ar = (placeOf w ar).map T.at := by
  unfold gPlace placeOf bnd
  rw [if_pos h]
  all_goals rfl
theorem place_head {w : Wd} {ar : Ar} (h : ¬ w.head? = some 120) : placeOf w ar = none := by
  unfold placeOf bnd
  rw [if_neg h]
theorem str_star : ("*" : Str) = S [42] := by decide +kernel
theorem str_at : ("@" : Str) = S [64] := by decide +kernel
theorem not_marked {u : Wd} (h1 : u ≠ [42]) (h2 : u ≠ [64]) : S u ∉ (["*", "@"] : List Str) := by
  rw [str_star, str_at]
  simp only [List.mem_cons, List.not_mem_nil, or_false, not_or]
  exact ⟨fun e => h1 (SX.S_inj e), fun e => h2 (SX.S_inj e)⟩
theorem c_single_word (T : Tx w K mg) : Cal P w K mg base 3 "single_word" (spD K (RWA lone)) [] := by
  obtain ⟨fd, F⟩ := T.d_single_word
  have X := fx_of T
  have c_is_name := c_is_name (P := P) (base := base) T
  have c_maker_word := c_maker_word (P := P) (base := base) T
  have c_eater_word := c_eater_word (P := P) (base := base) T
  have c_place_word := c_place_word (P := P) (base := base) T
  refine cal_of F (F.ok sc_single_word rwa_len (fun cdv A outer s H vs Q E hr h => ⟨_, PSs.nox (pss_cons (ps_if (pt_val (pe_c c_is_name hr (by decide) rfl (pa_cons (pv 0) pa_nil))) (pss_one (ps_ret (pe_tup (pa_cons pe_str (pa_cons (pv 0) pa_nil))))) pss_nil)
    (pss_cons (ps_if (pt_cmpR (op_inD (K := K) T.t_MARKED) (pe_slice C8.sl_txt (pv 0) po_none (po_some pe_int)) (gR T.g_MARKED) (by rfl)) (pss_cons (ps_set (i := 2) sc_single_word.nd rfl (Or.inl rfl) (pe_ix (ix_dictK (K := K) (w' := w)) (gR T.g_MARKED) (pe_ix ix_str (pv 0) pe_int (fun _ _ => rfl)) (fun _ _ => rfl)))
    (pss_one (ps_ret (C8.pe_cv (i := 2) (a_kind_word T) (a_name_word T) hr (by decide) (by decide) rfl (.inl rfl) (pa_cons (pv 0) (pa_cons (pv 1) pa_nil)))))) pss_nil)
    (pss_cons (ps_if (pt_cmpR op_inS pe_str (pv 0) (by rfl)) (pss_one (ps_ret (pe_c c_maker_word hr (by decide) rfl (pa_cons (pv 0) pa_nil)))) pss_nil)
    (pss_cons (ps_if (pt_cmpR op_inS pe_str (pv 0) (by rfl)) (pss_one (ps_ret (pe_c c_eater_word hr (by decide) rfl (pa_cons (pv 0) pa_nil)))) pss_nil)
    (pss_one (ps_ret (pe_ifExp (pt_cmpR op_eq (pe_slice C8.sl_txt (pv 0) po_none (po_some pe_int)) pe_str (nomark _)) (pe_c c_place_word hr (by decide) rfl (pa_cons (pv 0) (pa_cons (pv 1) pa_nil))) pe_non))))))), ?_⟩)) T.g_single_word
    fun _ _ _ _ _ _ us hl => match us, hl with | [_, _], _ => rfl
  obtain ⟨ds, d, hvs, ⟨w', ar, rfl, hl, rfl⟩, q⟩ := h
  cases hvs with
  | cons hword hvs =>
  obtain ⟨v2, rfl, haround⟩ := hvs.one_inv
  refine rd_if (est_val (es_c (esa_cons (es_var rfl hword) esa_nil) ⟨w', rfl, hl, rfl⟩)) (fun H2 e2 hb => ?_) (fun H2 e2 hn => ?_)
  · refine rd_ret (d := oT (lone w' ar)) ((es_tup (esa_cons (es_w [116, 104, 105, 110, 103]) (esa_cons (es_var rfl (hword.same e2)) esa_nil))).eq ?_) fun v H3 e3 hv => q v H3 (e2.trans e3) hv
    unfold lone
    rw [if_pos hb]
    rfl
  have hword := hword.same e2
  have haround := haround.same e2
  have q : Af K H2 (oT (lone w' ar)) Q := fun v H3 e3 hv => q v H3 (e2.trans e3) hv
  have hn' : ¬ isName w' = true := by rw [hn]; simp
  have hsl := es_sl (sl_to1 hl) (es_var (σ := [some _, some v2, none]) (i := 0) rfl hword) eso_no (eso_int (i := 1))
  by_cases h1 : w'.head? = some 42
  · obtain ⟨r, rfl⟩ : ∃ r, w' = 42 :: r := by cases w' with | nil => cases h1 | cons c r => simp at h1; exact ⟨r, by rw [h1]⟩
    obtain ⟨kd, u, hu⟩ := tab_get T.t_MARKED X.marked (x := "*") (d := .glo "kind_word") (by simp [kv_MARKED])
    rw [str_star] at kd hu
    refine rd_if (est_op (es_inD hsl hu)) (fun H3 e3 _ => ?_) (fun _ _ hb => by cases hb)
    refine rd_setD (es_op (od_ixS (by omega) atI_0) (es_var rfl (hword.same e3)) es_int) kd fun H4 e4 => ?_
    refine rd_cv1 (R1 := RWA gKind) (d := oT (lone (42 :: r) ar)) rfl (esa_cons (es_var rfl (hword.same (e3.trans e4))) (esa_cons (es_var rfl (haround.same (e3.trans e4))) esa_nil)) ⟨42 :: r, ar, rfl, hl, ?_⟩ fun v H5 e5 hv => q v H5 ((e3.trans e4).trans e5) hv
    unfold lone
    rw [if_neg hn', if_pos h1]
    rfl
  by_cases h2 : w'.head? = some 64
  · obtain ⟨r, rfl⟩ : ∃ r, w' = 64 :: r := by cases w' with | nil => cases h2 | cons c r => simp at h2; exact ⟨r, by rw [h2]⟩
    obtain ⟨kd, u, hu⟩ := tab_get T.t_MARKED X.marked (x := "@") (d := .glo "name_word") (by simp [kv_MARKED])
    rw [str_at] at kd hu
    refine rd_if (est_op (es_inD hsl hu)) (fun H3 e3 _ => ?_) (fun _ _ hb => by cases hb)
    refine rd_setD (es_op (od_ixS (by omega) atI_0) (es_var rfl (hword.same e3)) es_int) kd fun H4 e4 => ?_
    refine rd_cv2 (R2 := RWA gName') (d := oT (lone (64 :: r) ar)) rfl (esa_cons (es_var rfl (hword.same (e3.trans e4))) (esa_cons (es_var rfl (haround.same (e3.trans e4))) esa_nil)) ⟨64 :: r, ar, rfl, hl, ?_⟩ fun v H5 e5 hv => q v H5 ((e3.trans e4).trans e5) hv
    unfold lone
    rw [if_neg hn', if_neg h1, if_pos h2]
    rfl
  · refine rd_if (est_op (es_inD hsl (T.t_MARKED.no (not_marked (fun e => h1 (take1.mp e)) (fun e => h2 (take1.mp e)))))) (fun _ _ hb => by cases hb) (fun H3 e3 _ => ?_)
    refine rd_if (est_op (es_op od_inS (es_w [35]) (es_var rfl (hword.same e3)))) (fun H4 e4 hb => ?_) (fun H4 e4 hb1 => ?_)
    · refine rd_ret (d := oT (lone w' ar)) (es_c (esa_cons (es_var rfl (hword.same (e3.trans e4))) esa_nil) ⟨w', rfl, hl, by simpa using hb, ?_⟩) fun v H5 e5 hv => q v H5 ((e3.trans e4).trans e5) hv
      unfold lone
      rw [if_neg hn', if_neg h1, if_neg h2, if_pos (by simpa using hb)]
    · refine rd_if (est_op (es_op od_inS (es_w [33]) (es_var rfl (hword.same (e3.trans e4))))) (fun H5 e5 hb => ?_) (fun H5 e5 hb2 => ?_)
      · refine rd_ret (d := oT (lone w' ar)) (es_c (esa_cons (es_var rfl (hword.same ((e3.trans e4).trans e5))) esa_nil) ⟨w', rfl, hl, by simpa using hb, ?_⟩) fun v H6 e6 hv => q v H6 (((e3.trans e4).trans e5).trans e6) hv
        unfold lone
        rw [if_neg hn', if_neg h1, if_neg h2, if_neg (by simpa using hb1), if_pos (by simpa using hb)]
      · have e5' := (e3.trans e4).trans e5
        refine rd_ret (d := oT (lone w' ar)) (es_if (est_op (es_op od_eqW (es_sl (sl_to1 hl) (es_var rfl (hword.same e5')) eso_no eso_int) (es_w [120]))) (fun hc => (es_c (esa_cons (es_var rfl (hword.same e5')) (esa_cons (es_var rfl (haround.same e5')) esa_nil)) ⟨w', ar, rfl, hl, ?_⟩)) (fun hc => es_non.eq ?_)) fun v H6 e6 hv => q v H6 (e5'.trans e6) hv
        · rw [decide_eq_false_iff_not, take1] at hc
          unfold lone
          rw [if_neg hn', if_neg h1, if_neg h2, if_neg (by simpa using hb1), if_neg (by simpa using hb2), place_head hc]
          rfl
        · rw [decide_eq_true_eq, take1] at hc
          unfold lone
          rw [if_neg hn', if_neg h1, if_neg h2, if_neg (by simpa using hb1), if_neg (by simpa using hb2), gPlace_lone hc]
end
end K83
namespace K83
open PySem PySem.Spec PyProof.Rows L2
open C8 (Cal pe_c)
/-! ### what words cost -/
def cw (p : Nat) (w : Wd) : Nat := if w = wOpn then p else 1
def cost (p : Nat) (ws : List Wd) : Nat := (ws.map (cw p)).sum
theorem cost_step (p : Nat) {ws : List Wd} {k : Nat} (h : k < ws.length) : cost p (ws.drop k) = cw p (hd (ws.drop k)) + cost p (ws.drop (k + 1)) := by
  rw [List.drop_eq_getElem_cons h]
  simp only [cost, hd, List.map_cons, List.sum_cons]
theorem cw_pos {p : Nat} (hp : 0 < p) (w : Wd) : 0 < cw p w := by
  unfold cw
  split <;> omega
theorem len_cost : ∀ ws : List Wd, ws.length ≤ cost 3 ws
  | [] => Nat.zero_le _
  | w :: ws => by
    have h1 := len_cost ws
    have h2 := cw_pos (p := 3) (by decide) w
    simp only [cost, List.map_cons, List.sum_cons, List.length_cons] at h1 ⊢
    omega
theorem cost_drop_le {p : Nat} : ∀ (ws : List Wd) (k j : Nat), k ≤ j → cost p (ws.drop j) ≤ cost p (ws.drop k)
  | [], k, j, _ => by simp [cost]
  | w :: ws, 0, 0, _ => Nat.le_refl _
  | w :: ws, 0, j + 1, _ => by
    have := cost_drop_le (p := p) ws 0 j (Nat.zero_le _)
    rw [List.drop_succ_cons]
    simp only [List.drop_zero] at this ⊢
    simp only [cost, List.map_cons, List.sum_cons] at this ⊢
    omega
  | w :: ws, k + 1, 0, h => by omega
  | w :: ws, k + 1, j + 1, h => cost_drop_le (p := p) ws k j (by omega)
theorem cost_lt {ws : List Wd} {k j : Nat} (h : k < ws.length) (hj : k < j) : cost 3 (ws.drop j) < cost 3 (ws.drop k) := by
  have h1 := cost_step 3 h
  have h2 := cost_drop_le (p := 3) ws (k + 1) j (by omega)
  have h3 := cw_pos (p := 3) (by decide) (hd (ws.drop k))
  omega
theorem cost_opn {ws : List Wd} {k : Nat} (h : hd (ws.drop k) = wOpn) : cost 3 (ws.drop (k + 1)) + 3 = cost 3 (ws.drop k) := by
  have hk : k < ws.length := Decidable.byContradiction fun z => by
    rw [hd_out z] at h
    cases h
  have h1 := cost_step 3 hk
  rw [h] at h1
  have : cw 3 wOpn = 3 := rfl
  omega
theorem pos_drop {ws r : List Wd} (h : ∃ i, r = ws.drop i) : ws.drop (ws.length - r.length) = r := by
  obtain ⟨i, rfl⟩ := h
  rw [List.length_drop]
  by_cases c : i ≤ ws.length
  · rw [show ws.length - (ws.length - i) = i by omega]
  · rw [List.drop_of_length_le (by omega), List.drop_of_length_le (by omega)]
/-- where it goes on -/
def posR (ws r : List Wd) : Nat := ws.length - r.length
def outR (ws : List Wd) (x : RR) : Option PyData := x.map fun p => .tuple [p.1.data, .int (posR ws p.2 : Nat)]
theorem rd_pos {m : Md} {ar : Ar} {ws : List Wd} {k : Nat} {t : T} {r : List Wd} (h : rd m ar (ws.drop k) = some (t, r)) : r = ws.drop (posR ws r) := by
  obtain ⟨i, e⟩ := rd_drop h
  exact (pos_drop ⟨k + i, by rw [e, List.drop_drop]⟩).symm
theorem pos_le (ws r : List Wd) : posR ws r ≤ ws.length := Nat.sub_le _ _
theorem pos_lt {ws : List Wd} {k : Nat} {r : List Wd} (h : r.length < (ws.drop k).length) : k < posR ws r ∧ k < ws.length := by
  rw [List.length_drop] at h
  unfold posR
  omega
theorem pos_next {ws r : List Wd} (h : r ≠ []) (hr : r = ws.drop (posR ws r)) : posR ws (r.drop 1) = posR ws r + 1 ∧ posR ws r < ws.length := by
  have hl : r.length ≠ 0 := fun e => h (List.eq_nil_of_length_eq_zero e)
  have h2 : r.length ≤ ws.length := by
    have := congrArg List.length hr
    rw [List.length_drop] at this
    omega
  unfold posR
  rw [List.length_drop]
  omega
/-! ### promises of what may raise NoSign -/
def spO (K : PySem.W.Frag) (R : List PyData → Option PyData → Prop) : Sp := fun vs H Q E => ∃ ds o, DtA K H vs ds ∧ R ds o ∧ (∀ d, o = some d → Af K H d Q) ∧ (o = none → ∀ v H2, Same H H2 → BadX K H2 "NoSign" "at" v E)
theorem spO_len {K : PySem.W.Frag} {R : List PyData → Option PyData → Prop} {n : Nat} (h : ∀ ds d, R ds d → ds.length = n) : ∀ vs H Q E, spO K R vs H Q E → vs.length = n := fun vs H Q E ⟨ds, d, h1, h2, _⟩ => by rw [h1.len, h ds d h2]
section
variable {K : PySem.W.Frag} {σ : L2.St} {H : Hp} {t : TA} {te : TE} {ds : List PyData} {o : Option PyData} {R : List PyData → Option PyData → Prop} {W : WX} {D : L2.Ends}
theorem call_o {Q : VK} (h : EsA K t σ H ds) (hR : R ds o) (q1 : ∀ d v H2, o = some d → Same H H2 → Dt K H2 v d → Q v H2) (q2 : o = none → ∀ v H2, Same H H2 → BadX K H2 "NoSign" "at" v (WE W σ)) : tCallS (spO K R) (WE W) t σ H Q :=
  h.at fun vs H1 e1 hv => ⟨ds, o, hv, hR, fun d ho v H2 e2 h2 => q1 d v H2 ho (e1.trans e2) h2, fun ho v H2 e2 => q2 ho v H2 (e1.trans e2)⟩
/-- a, b = f(..) -/
theorem rd_o2 {i j : Nat} {ws : List Wd} {x : RR} (h : EsA K t σ H ds) (hR : R ds (outR ws x))
    (q1 : ∀ t' r v1 v2 H2, x = some (t', r) → Same H H2 → Dt K H2 v1 (T.data t') → Dt K H2 v2 (.int (posR ws r : Nat)) → D.nx ((σ.set i (some v1)).set j (some v2)) H2) (q2 : x = none → ∀ v H2, Same H H2 → BadX K H2 "NoSign" "at" v (WE W σ)) :
    tAsg (tCallS (spO K R) (WE W) t) (gTup K 2 (gCons (gName i) (gCons (gName j) gNil))) D σ H := call_o h hR (fun d v H2 ho e2 hv => by
  cases x with
  | none => cases ho
  | some p =>
    cases ho
    cases hv with
    | tup hs hr =>
      cases hr with
      | cons h1 hr =>
        cases hr with
        | cons h2 hr =>
          cases hr
          exact ⟨_, _, rfl, hs, rfl, _, _, rfl, _, _, rfl, rfl, q1 p.1 p.2 _ _ H2 rfl e2 h1 h2⟩) (fun ho => q2 (by cases x with | none => rfl | some p => cases ho))
theorem rd_o0 (h : EsA K t σ H ds) (hR : R ds o) (q1 : ∀ d H2, o = some d → Same H H2 → D.nx σ H2) (q2 : o = none → ∀ v H2, Same H H2 → BadX K H2 "NoSign" "at" v (WE W σ)) : tDrop (tCallS (spO K R) (WE W) t) D σ H :=
  call_o h hR (fun d v H2 ho e2 _ => q1 d H2 ho e2) q2
theorem rd_o1 {i : Nat} (h : EsA K t σ H ds) (hR : R ds o) (q1 : ∀ d v H2, o = some d → Same H H2 → Dt K H2 v d → D.nx (σ.set i (some v)) H2) (q2 : o = none → ∀ v H2, Same H H2 → BadX K H2 "NoSign" "at" v (WE W σ)) : tAsg (tCallS (spO K R) (WE W) t) (gName i) D σ H :=
  call_o h hR (fun d v H2 ho e2 hv => q1 d v H2 ho e2 hv) q2
/-- x = [..], a list that may change -/
theorem rd_new {i : Nat} (h : EsA K t σ H ds) (hl : ds.length ≤ 100000) (q : ∀ p H2 xs, Same H H2 → H p = none → H2 p = some (.lst xs) → DtA K H2 xs ds → D.nx (σ.set i (some (.ref p))) H2) : tAsg (tLst t) (gName i) D σ H :=
  h.at fun xs H2 e2 hx => ⟨by rw [hx.len]; exact len_small hl, fun p hp => q p _ xs (e2.trans (same_new hp _)) (e2.free hp) upd_same (hx.same (same_new hp _))⟩
theorem rd_augI {i : Nat} {a b m : Int} (hs : σ[i]? = some (some (.int a))) (h : Es K te σ H (.int b)) (e : a + b = m) (q : ∀ H2, Same H H2 → D.nx (σ.set i (some (.int m))) H2) : tAug i te (ipI fun i j => i + j) D σ H :=
  ⟨_, hs, h.at fun v H2 e2 hv => by
    cases hv
    subst e
    exact ⟨_, _, rfl, rfl, q H2 e2⟩⟩
/-- x.append(e) -/
theorem rd_app {i : Nat} {l : Addr} {xs : List V} {d : PyData} (hs : σ[i]? = some (some (.ref l))) (hL : H l = some (.lst xs)) (hz : xs.length < 100000) (h : Es K te σ H d) (q : ∀ v H2, Same H H2 → Dt K H2 v d → H2 l = some (.lst xs) → D.nx σ (upd H2 l (.lst (xs ++ [v])))) :
    tDrop (tBM K "list" rAppend (tVar i) (tCons te tNil)) D σ H := ⟨_, hs, .inl ⟨rfl, _, SqL.of hL⟩, h.at fun v H2 e2 hv => ⟨l, xs, v, rfl, rfl, e2 _ _ hL, len_lt (by omega), q v H2 e2 hv (e2 _ _ hL)⟩⟩
theorem rd_while {c : TT} {tb : TS} (Pv : Nat → L2.St → Hp → Prop) {m0 : Nat} (h0 : Pv m0 σ H)
    (hs : ∀ m σ H, Pv m σ H → ∃ b, EsT c σ H b ∧ (b = true → ∀ H2, Same H H2 → tb { D with nx := fun σ' H' => ∃ m', m' < m ∧ Pv m' σ' H', ct := fun σ' H' => ∃ m', m' < m ∧ Pv m' σ' H', bk := D.nx } σ H2) ∧ (b = false → ∀ H2, Same H H2 → D.nx σ H2)) : tWhile c tb D σ H := by
  refine ⟨Pv, ⟨m0, h0⟩, fun m σ H p => ?_⟩
  obtain ⟨b, h1, h2, h3⟩ := hs m σ H p
  refine h1.at fun H2 e2 => ?_
  cases b with
  | true => exact iteT ⟨_, fun _ _ z => z, h2 rfl H2 e2⟩
  | false => exact iteF (h3 rfl H2 e2)
theorem rd_forR {g : TG} {tb : TS} {n : Nat} (h : Es K te σ H (.int (n : Nat))) (hn : n ≤ 100000) (Pv : Nat → L2.St → Hp → Prop) (h0 : ∀ H2, Same H H2 → Pv 0 σ H2)
    (hs : ∀ i σ H, i < n → Pv i σ H → g (.int (i : Nat)) σ H fun σ2 H2 => tb { D with nx := Pv (i + 1), ct := Pv (i + 1), bk := D.nx } σ2 H2) (hd : ∀ σ H, Pv n σ H → D.nx σ H) : tFor (iRng1 (tCons te tNil)) g tb D σ H := h.at fun v H2 e2 hv => by
  cases hv
  have w : Walk (Itr 0 (n : Int).toNat) n (fun _ => True) (YFn fun i => .int (0 + i)) := by
    have := walk_range (lo := 0) (n := (n : Int).toNat)
    rw [show (n : Int).toNat = n by omega] at this ⊢
    exact this
  refine ⟨_, rfl, by omega, by omega, for_it w Pv (h0 H2 e2) (fun _ _ _ _ _ => trivial) (fun i x σ' H3 H4 hi p y => ?_) hd⟩
  obtain ⟨rfl, rfl⟩ := y
  show g (.int (0 + (i : Int))) σ' H4 _
  rw [Int.zero_add]
  exact hs i σ' H4 hi p
end
section
variable {P : Program} {w : World} {K : PySem.W.Frag} {mg : Str → Option Value} {base : Heap}
/-- a promise that can't be asked -/
theorem cal_no {x : Str} {fd : FuncData} {params : Arguments} {body : List Stmt} {scope : Scope} {ps : List Str} {k : Nat} {sp : Sp} (F : FunD K x x params body scope [] [] (He.ga K x) fd) (g : mg x = some (.ref (He.ga K x))) (no : ∀ vs H Q E, ¬ sp vs H Q E)
    (h : ∀ (kV doc pm : Value) (an : Option Addr) (cdv ct : Value) (us : List Value), us.length = ps.length → bindArgs (PySem.W.fnOf x x params body scope .none kV doc pm an cdv ct) ⟨us, []⟩ = pure (ps.zip us)) : CalR P w K mg base k x sp :=
  calR_of F (ps := ps) ⟨fun vs H Q E h => absurd h (no vs H Q E), fun A outer s H args us vs Q E _ _ _ _ h => absurd h (no vs H Q E)⟩ g h
/-! ### need_word -/
def RNeed : List PyData → Option PyData → Prop := fun ds o => ∃ (ws : List Wd) (k : Nat) (w : Wd), ds = [.list (wsD ws), .int k, wD w] ∧ o = if hd (ws.drop k) = w then some .none else none
abbrev N_need_word : List Str := ["words", "at", "word"]
theorem sc_need_word : FnScope N_need_word N_need_word (defScope s_need_word) := ⟨rfl, rfl, rfl, by decide +kernel, rfl, by decide +kernel, by decide +kernel⟩
theorem c_need_word (T : Tx w K mg) : CalR P w K mg base 3 "need_word" (spO K RNeed) := by
  obtain ⟨fd, F⟩ := T.d_need_word
  have X := fx_of T
  have c_word_at := c_word_at (P := P) (base := base) T
  refine calR_of F (F.ok sc_need_word (spO_len fun ds d h => by obtain ⟨_, _, _, rfl, _⟩ := h; rfl) (fun cdv A outer s H vs Q E hr h => ⟨_, (pss_one (ps_if (pt_cmpR op_ne (pe_c c_word_at hr (by decide) rfl (pa_cons (pv 0) (pa_cons (pv 1) pa_nil))) (pv 2) (nomark _)) (pss_one (ps_bad rfl (takes_of rfl rfl rfl rfl) (ini_S T) X.eS hr (by decide) rfl T.g_NoSign (pv 1))) pss_nil)), ?_⟩)) T.g_need_word
    fun _ _ _ _ _ _ us hl => match us, hl with | [_, _, _], _ => rfl
  obtain ⟨ds, o, hvs, ⟨ws, k, w', rfl, rfl⟩, q1, q2⟩ := h
  cases hvs with
  | cons hwords hvs =>
  cases hvs with
  | cons hat hvs =>
  obtain ⟨v2, rfl, hword⟩ := hvs.one_inv
  refine rd_if (est_op (es_op od_neW (es_c (esa_cons (es_var rfl hwords) (esa_cons (es_var rfl hat) esa_nil)) ⟨ws, k, rfl, rfl⟩) (es_var rfl hword))) (fun H2 e2 hb => ?_) (fun H2 e2 hb => ?_)
  · refine rd_bad (es_var rfl (hat.same e2)) fun v H3 e3 hv => q2 ?_ v H3 (e2.trans e3)
    rw [if_neg (by simpa using hb)]
  · exact q1 .none (by rw [if_pos (by simpa using hb)]) _ _ e2 .non
/-! ### read_part -/
def RRd (m : Md) (n : Nat) : List PyData → Option PyData → Prop := fun ds o => ∃ (ws : List Wd) (k : Nat) (ar : Ar), ds = [.list (wsD ws), .int k, .list (ar.map aD)] ∧ k ≤ ws.length ∧ (∀ w ∈ ws, w.length ≤ 4000) ∧ ar.length + (ws.length - k) ≤ 50000 ∧ cost 3 (ws.drop k) < n ∧ o = outR ws (rd m ar (ws.drop k))
theorem rrd_len {m : Md} {n : Nat} : ∀ vs H Q E, spO K (RRd m n) vs H Q E → vs.length = 3 := spO_len fun ds d h => by obtain ⟨_, _, _, rfl, _⟩ := h; rfl
theorem rrd_no {m : Md} : ∀ vs H Q E, ¬ spO K (RRd m 0) vs H Q E := fun vs H Q E h => by
  obtain ⟨_, _, _, ⟨_, _, _, _, _, _, _, h, _⟩, _⟩ := h
  omega
theorem mem_len {ws : List Wd} (h : ∀ w ∈ ws, w.length ≤ 4000) (k : Nat) : (hd (ws.drop k)).length ≤ 4000 := by
  by_cases c : k < ws.length
  · exact h _ (List.mem_of_getElem? (hd_get c))
  · rw [hd_out c]; simp
abbrev N_read_part : List Str := ["words", "at", "around", "word", "found"]
abbrev P_read_part : List Str := ["words", "at", "around"]
theorem sc_read_part : FnScope N_read_part P_read_part (defScope s_read_part) := ⟨rfl, rfl, rfl, by decide +kernel, rfl, by decide +kernel, by decide +kernel⟩
theorem drop_add (ws : List Wd) (k : Nat) : (ws.drop k).drop 1 = ws.drop (k + 1) := by rw [List.drop_drop]
theorem lt_of_hd {ws : List Wd} {k : Nat} (h : hd (ws.drop k) ≠ []) : k < ws.length := Decidable.byContradiction fun z => h (hd_out z)
theorem c_read_part (T : Tx w K mg) (n : Nat) (c_read_term : CalR P w K mg base (n + 4) "read_term" (spO K (RRd .term (n - 3)))) : CalR P w K mg base (n + 5) "read_part" (spO K (RRd .part n)) := by
  obtain ⟨fd, F⟩ := T.d_read_part
  have X := fx_of T
  have c_word_at := c_word_at (P := P) (base := base) T
  have c_single_word := c_single_word (P := P) (base := base) T
  have c_need_word := c_need_word (P := P) (base := base) T
  refine calR_of F (F.ok sc_read_part rrd_len (fun cdv A outer s H vs Q E hr h => ⟨_, (pss_cons (ps_set (i := 3) sc_read_part.nd rfl (Or.inl rfl) (pe_c c_word_at hr (by omega) rfl (pa_cons (pv 0) (pa_cons (pv 1) pa_nil))))
    (pss_cons (ps_if (pt_cmpR op_eq (pv 3) pe_str (nomark _)) (pss_cons (ps_asg (pe_cr c_read_term hr (by omega) rfl (takes_of rfl rfl rfl rfl) (pa_cons (pv 0) (pa_cons (pe_op op_add (pv 1) pe_int) (pa_cons (pv 2) pa_nil)))) (pg_tup (n := 2) (by rfl) (pgs_cons (pg_name (i := 4) sc_read_part.nd rfl (Or.inl rfl)) (pgs_cons (pg_name (i := 1) sc_read_part.nd rfl (Or.inl rfl)) pgs_nil))))
    (pss_cons (ps_expr (pe_cr c_need_word hr (by omega) rfl (takes_of rfl rfl rfl rfl) (pa_cons (pv 0) (pa_cons (pv 1) (pa_cons pe_str pa_nil)))))
    (pss_one (ps_ret (pe_tup (pa_cons (pv 4) (pa_cons (pe_op op_add (pv 1) pe_int) pa_nil))))))) pss_nil)
    (pss_cons (ps_set (i := 4) sc_read_part.nd rfl (Or.inl rfl) (pe_c c_single_word hr (by omega) rfl (pa_cons (pv 3) (pa_cons (pv 2) pa_nil))))
    (pss_cons (ps_if (pt_cmpR op_isK (pv 4) pe_non (nomark _)) (pss_one (ps_bad rfl (takes_of rfl rfl rfl rfl) (ini_S T) X.eS hr (by omega) rfl T.g_NoSign (pv 1))) pss_nil)
    (pss_one (ps_ret (pe_tup (pa_cons (pv 4) (pa_cons (pe_op op_add (pv 1) pe_int) pa_nil))))))))), ?_⟩)) T.g_read_part
    fun _ _ _ _ _ _ us hl => match us, hl with | [_, _, _], _ => rfl
  obtain ⟨ds, o, hvs, ⟨ws, k, ar, rfl, hk, hl, har, hc, rfl⟩, q1, q2⟩ := h
  cases hvs with
  | cons hwords hvs =>
  cases hvs with
  | cons hat hvs =>
  obtain ⟨v2, rfl, haround⟩ := hvs.one_inv
  refine rd_set (es_c (esa_cons (es_var rfl hwords) (esa_cons (es_var rfl hat) esa_nil)) ⟨ws, k, rfl, rfl⟩) fun vw H2 e2 hword => ?_
  refine rd_if (est_op (es_op od_eqW (es_var rfl hword) (es_w wOpn))) (fun H3 e3 hb => ?_) (fun H3 e3 hb => ?_)
  · have hb : hd (ws.drop k) = wOpn := by simpa using hb
    have hkl : k < ws.length := lt_of_hd (by rw [hb]; decide)
    have e23 := e2.trans e3
    have hco := cost_opn hb
    have hrd := rd_part ar (ws.drop k)
    rw [if_pos hb, drop_add] at hrd
    refine rd_o2 (x := rd .term ar (ws.drop (k + 1))) (esa_cons (es_var rfl (hwords.same e23)) (esa_cons (es_op od_add (es_var rfl (hat.same e23)) es_int) (esa_cons (es_var rfl (haround.same e23)) esa_nil))) ⟨ws, k + 1, ar, by simp, by omega, hl, by omega, by omega, rfl⟩ (fun t' r v1 v2 H4 hx e4 h1 h2 => ?_) (fun hx v H4 e4 => ?_)
    · rw [hx, Option.bind_some] at hrd
      have hpos := rd_pos hx
      refine rd_o0 (esa_cons (es_var rfl (hwords.same (e23.trans e4))) (esa_cons (es_var rfl h2) (esa_cons (es_w wCls) esa_nil))) ⟨ws, posR ws r, wCls, rfl, rfl⟩ (fun d H5 ho e5 => ?_) (fun ho v H5 e5 => ?_)
      · rw [← hpos] at ho
        have hcl : hd r = wCls := Decidable.byContradiction fun z => by rw [if_neg z] at ho; cases ho
        obtain ⟨hp1, hp2⟩ := pos_next (hd_ne (by rw [hcl]; decide)) hpos
        rw [if_pos hcl] at hrd
        refine rd_ret (d := .tuple [t'.data, .int ((posR ws (r.drop 1) : Nat))]) ((es_tup (esa_cons (es_var rfl (h1.same e5)) (esa_cons (es_op od_add (es_var rfl (h2.same e5)) es_int) esa_nil))).eq (by rw [hp1]; simp)) fun v H6 e6 hv => q1 _ (by rw [hrd]; rfl) v H6 (((e23.trans e4).trans e5).trans e6) hv
      · rw [← hpos] at ho
        have hcl : hd r ≠ wCls := fun z => by rw [if_pos z] at ho; cases ho
        rw [if_neg hcl] at hrd
        exact q2 (by rw [hrd]; rfl) v H5 ((e23.trans e4).trans e5)
    · rw [hx] at hrd
      exact q2 (by rw [hrd]; rfl) v H4 (e23.trans e4)
  · have hb : hd (ws.drop k) ≠ wOpn := by simpa using hb
    have e23 := e2.trans e3
    have hrd := rd_part ar (ws.drop k)
    rw [if_neg hb, drop_add] at hrd
    refine rd_set (es_c (esa_cons (es_var rfl (hword.same e3)) (esa_cons (es_var rfl (haround.same e23)) esa_nil)) ⟨hd (ws.drop k), ar, rfl, mem_len hl k, rfl⟩) fun vf H4 e4 hfound => ?_
    refine rd_if (est_op (es_op od_isN (es_var rfl hfound) es_non)) (fun H5 e5 hb => ?_) (fun H5 e5 hb => ?_)
    · rw [oT_none] at hb
      have hn : lone (hd (ws.drop k)) ar = none := by simpa using hb
      rw [hn] at hrd
      exact rd_bad (es_var rfl (hat.same ((e23.trans e4).trans e5))) fun v H6 e6 hv => q2 (by rw [hrd]; rfl) v H6 (((e23.trans e4).trans e5).trans e6)
    · rw [oT_none] at hb
      cases hlo : lone (hd (ws.drop k)) ar with
      | none => rw [hlo] at hb; cases hb
      | some t' =>
        rw [hlo] at hrd hfound
        have hkl : k < ws.length := lt_of_hd (lone_ne hlo)
        have hp : posR ws (ws.drop (k + 1)) = k + 1 := by unfold posR; rw [List.length_drop]; omega
        refine rd_ret (d := .tuple [t'.data, .int ((posR ws (ws.drop (k + 1)) : Nat))]) ((es_tup (esa_cons (es_var rfl (hfound.same e5)) (esa_cons (es_op od_add (es_var rfl (hat.same ((e23.trans e4).trans e5))) es_int) esa_nil))).eq (by rw [hp]; simp [oT])) fun v H6 e6 hv => q1 _ (by rw [hrd]; rfl) v H6 (((e23.trans e4).trans e5).trans e6) hv
end
end K83
namespace K83
open PySem PySem.Spec PyProof.Rows L2
open C8 (Cal pe_c)
/-! ### terms are flat data -/
theorem flat_w (w : Wd) : flatT (wD w) = true := rfl
theorem flat_term : ∀ t : T, flatT t.data = true
  | .thing n => rfl
  | .at k => rfl
  | .kind h => rfl
  | .name n => rfl
  | .maker n k => rfl
  | .eater n h => rfl
  | .n2 w x y => by simp [T.data, flatT, flatTs, flat_term x, flat_term y, flat_w]
  | .n3 w x y z => by simp [T.data, flatT, flatTs, flat_term x, flat_term y, flat_term z, flat_w]
theorem flat_terms : ∀ ts : List T, flatTs (ts.map T.data) = true
  | [] => rfl
  | t :: ts => by simp [flatTs, flat_term t, flat_terms ts]
/-! ### several parts -/
def parts : Nat → Ar → List Wd → Option (List T × List Wd)
  | 0, _, ws => some ([], ws)
  | n + 1, ar, ws => (parts n ar ws).bind fun p => (rd .part ar p.2).map fun q => (p.1 ++ [q.1], q.2)
def mkR (w : Wd) : List T → T
  | [x, y] => .n2 w x y
  | [x, y, z] => .n3 w x y z
  | _ => .thing w
theorem parts_len : ∀ {n : Nat} {ar : Ar} {ws : List Wd} {ts : List T} {r : List Wd}, parts n ar ws = some (ts, r) → ts.length = n
  | 0, _, _, _, _, h => by cases h; rfl
  | n + 1, ar, ws, ts, r, h => by
    unfold parts at h
    cases e : parts n ar ws with
    | none => rw [e] at h; cases h
    | some p =>
      rw [e, Option.bind_some] at h
      cases e2 : rd .part ar p.2 with
      | none => rw [e2] at h; cases h
      | some q =>
        rw [e2] at h
        cases h
        rw [List.length_append, parts_len (ts := p.1) (r := p.2) e]
        rfl
theorem parts_none {n m : Nat} {ar : Ar} {ws : List Wd} (h : parts n ar ws = none) (hm : n ≤ m) : parts m ar ws = none := by
  induction hm with
  | refl => exact h
  | step _ ih =>
    unfold parts
    rw [ih]
    rfl
theorem parts_pos : ∀ {n : Nat} {ar : Ar} {ws : List Wd} {k : Nat} {ts : List T} {r : List Wd}, parts n ar (ws.drop k) = some (ts, r) → r = ws.drop (posR ws r) ∧ (k ≤ ws.length → k ≤ posR ws r) ∧ r.length ≤ (ws.drop k).length
  | 0, _, ws, k, _, _, h => by
    cases h
    refine ⟨(pos_drop ⟨k, rfl⟩).symm, fun hk => ?_, Nat.le_refl _⟩
    unfold posR
    rw [List.length_drop]
    omega
  | n + 1, ar, ws, k, ts, r, h => by
    unfold parts at h
    cases e : parts n ar (ws.drop k) with
    | none => rw [e] at h; cases h
    | some p =>
      rw [e, Option.bind_some] at h
      obtain ⟨h1, h2, h3⟩ := parts_pos (ts := p.1) (r := p.2) e
      cases e2 : rd .part ar p.2 with
      | none => rw [e2] at h; cases h
      | some q =>
        rw [e2] at h
        cases h
        rw [h1] at e2
        have h4 := part_lt e2
        rw [← h1] at h4
        refine ⟨rd_pos e2, fun hk => ?_, by omega⟩
        have := h2 hk
        unfold posR at this ⊢
        omega
theorem row3 {ar : Ar} {ws : List Wd} (h : hd ws = wSame ∨ hd ws = wPut) : rd .row ar ws = (parts 3 ar (ws.drop 1)).map fun p => (mkR (hd ws) p.1, p.2) := by
  rw [rd_row, if_pos h]
  unfold parts parts parts parts
  simp only [Option.bind_some]
  cases rd .part ar (ws.drop 1) with
  | none => rfl
  | some p =>
    simp only [Option.bind_some, Option.map_some]
    cases rd .part ar p.2 with
    | none => rfl
    | some q =>
      simp only [Option.bind_some, Option.map_some]
      cases rd .part ar q.2 with
      | none => rfl
      | some s => rfl
theorem row2 {ar : Ar} {ws : List Wd} (h : hd ws = wSelf) : rd .row ar ws = (parts 2 ar (ws.drop 1)).map fun p => (mkR (hd ws) p.1, p.2) := by
  rw [rd_row, if_neg (by rw [h]; decide), if_pos h]
  unfold parts parts parts
  simp only [Option.bind_some]
  cases rd .part ar (ws.drop 1) with
  | none => rfl
  | some p =>
    simp only [Option.bind_some, Option.map_some]
    cases rd .part ar p.2 with
    | none => rfl
    | some q =>
      simp only [Option.map_some, Option.bind_some, h]
      rfl
theorem mkR_data {w : Wd} {ts : List T} (h : ts.length = 2 ∨ ts.length = 3) : (mkR w ts).data = .tuple (wD w :: ts.map T.data) := by
  match ts, h with
  | [_, _], _ => rfl
  | [_, _, _], _ => rfl
theorem str_same : ("same" : Str) = S wSame := by decide +kernel
theorem str_self : ("self" : Str) = S wSelf := by decide +kernel
theorem str_put : ("put" : Str) = S wPut := by decide +kernel
section
variable {P : Program} {w : World} {K : PySem.W.Frag} {mg : Str → Option Value} {base : Heap}
abbrev N_read_row : List Str := ["words", "at", "around", "word", "found", "number", "part"]
abbrev P_read_row : List Str := ["words", "at", "around"]
theorem sc_read_row : FnScope N_read_row P_read_row (defScope s_read_row) := ⟨rfl, rfl, rfl, by decide +kernel, rfl, by decide +kernel, by decide +kernel⟩
theorem dt_int {H : Hp} {v : V} {i : Int} (h : Dt K H v (.int i)) : v = .int i := by cases h; rfl
theorem c_read_row (T : Tx w K mg) (n : Nat) (c_read_part : CalR P w K mg base (n + 5) "read_part" (spO K (RRd .part n))) : CalR P w K mg base (n + 6) "read_row" (spO K (RRd .row n)) := by
  obtain ⟨fd, F⟩ := T.d_read_row
  have X := fx_of T
  have c_word_at := c_word_at (P := P) (base := base) T
  have c_single_word := c_single_word (P := P) (base := base) T
  refine calR_of F (F.ok sc_read_row rrd_len (fun cdv A outer s H vs Q E hr h => ⟨_, (pss_cons (ps_set (i := 3) sc_read_row.nd rfl (Or.inl rfl) (pe_c c_word_at hr (by omega) rfl (pa_cons (pv 0) (pa_cons (pv 1) pa_nil))))
    (pss_cons (ps_if (pt_cmpR (op_inD (K := K) T.t_TRIPLES) (pv 3) (gR T.g_TRIPLES) (by rfl)) (pss_cons (ps_set (i := 4) sc_read_row.nd rfl (Or.inl rfl) (pe_lst (pa_cons (pv 3) pa_nil)))
    (pss_cons (ps_aug (i := 1) sc_read_row.nd rfl (Or.inl rfl) pe_int ip_add)
    (pss_cons (ps_for (passes_of rfl) rfl (pi_range1 (by rfl) T.n_range (pa_cons (pe_ix (ix_dictK (K := K) (w' := w)) (gR T.g_TRIPLES) (pv 3) (fun _ _ => rfl)) pa_nil)) (pg_name (i := 5) sc_read_row.nd rfl (Or.inl rfl))
      (pss_cons (ps_asg (pe_cr c_read_part hr (by omega) rfl (takes_of rfl rfl rfl rfl) (pa_cons (pv 0) (pa_cons (pv 1) (pa_cons (pv 2) pa_nil)))) (pg_tup (n := 2) (by rfl) (pgs_cons (pg_name (i := 6) sc_read_row.nd rfl (Or.inl rfl)) (pgs_cons (pg_name (i := 1) sc_read_row.nd rfl (Or.inl rfl)) pgs_nil))))
    (pss_one (ps_expr (pe_bm PySem.F.plainAttrs_list PySem.F.slot_list_append PySem.F.type_list_append mt_append (pv 4) (pa_cons (pv 6) pa_nil))))))
    (pss_one (ps_ret (pe_tup (pa_cons (pe_callTy (call_tupK (K := K)) rfl T.n_tuple b_tuple (pa_cons (pv 4) pa_nil)) (pa_cons (pv 1) pa_nil)))))))) pss_nil)
    (pss_cons (ps_asg (pe_cr c_read_part hr (by omega) rfl (takes_of rfl rfl rfl rfl) (pa_cons (pv 0) (pa_cons (pv 1) (pa_cons (pv 2) pa_nil)))) (pg_tup (n := 2) (by rfl) (pgs_cons (pg_name (i := 4) sc_read_row.nd rfl (Or.inl rfl)) (pgs_cons (pg_name (i := 1) sc_read_row.nd rfl (Or.inl rfl)) pgs_nil))))
    (pss_cons (ps_while (passes_of rfl) (PW.pt (pw_or (pt_cmpR op_eq (pe_c c_word_at hr (by omega) rfl (pa_cons (pv 0) (pa_cons (pv 1) pa_nil))) pe_str (nomark _)) (pw_or1 (pt_cmpR op_isNotK (pe_c c_single_word hr (by omega) rfl (pa_cons (pe_c c_word_at hr (by omega) rfl (pa_cons (pv 0) (pa_cons (pv 1) pa_nil))) (pa_cons (pv 2) pa_nil))) pe_non (nomark _)))))
      (pss_cons (ps_asg (pe_cr c_read_part hr (by omega) rfl (takes_of rfl rfl rfl rfl) (pa_cons (pv 0) (pa_cons (pv 1) (pa_cons (pv 2) pa_nil)))) (pg_tup (n := 2) (by rfl) (pgs_cons (pg_name (i := 6) sc_read_row.nd rfl (Or.inl rfl)) (pgs_cons (pg_name (i := 1) sc_read_row.nd rfl (Or.inl rfl)) pgs_nil))))
    (pss_one (ps_set (i := 4) sc_read_row.nd rfl (Or.inl rfl) (pe_tup (pa_cons pe_str (pa_cons (pv 4) (pa_cons (pv 6) pa_nil))))))))
    (pss_one (ps_ret (pe_tup (pa_cons (pv 4) (pa_cons (pv 1) pa_nil))))))))), ?_⟩)) T.g_read_row
    fun _ _ _ _ _ _ us hl => match us, hl with | [_, _, _], _ => rfl
  obtain ⟨ds, o, hvs, ⟨ws, k, ar, rfl, hk, hl, har, hc, rfl⟩, q1, q2⟩ := h
  cases hvs with
  | cons hwords hvs =>
  cases hvs with
  | cons hat hvs =>
  obtain ⟨v2, rfl, haround⟩ := hvs.one_inv
  obtain rfl := dt_int hat
  rename_i v0
  refine rd_set (es_c (esa_cons (es_var rfl hwords) (esa_cons (es_var rfl hat) esa_nil)) ⟨ws, k, rfl, rfl⟩) fun vw H2 e2 hword => ?_
  have hcase : (∃ m : Nat, (m = 2 ∨ m = 3) ∧ hd (ws.drop k) ≠ [] ∧ rd .row ar (ws.drop k) = (parts m ar (ws.drop (k + 1))).map (fun p => (mkR (hd (ws.drop k)) p.1, p.2)) ∧ KDct K w (He.ga K "TRIPLES") (S (hd (ws.drop k))) (.int (m : Nat)) ∧ ∃ u, PySem.W.nsIn K (He.ga K "TRIPLES") (S (hd (ws.drop k))) = some (some u)) ∨
      (hd (ws.drop k) ≠ wSame ∧ hd (ws.drop k) ≠ wSelf ∧ hd (ws.drop k) ≠ wPut) := by
    by_cases h1 : hd (ws.drop k) = wSame
    · obtain ⟨kd, u, hu⟩ := tab_get T.t_TRIPLES X.triples (x := "same") (d := .int 3) (by simp [kv_TRIPLES])
      rw [str_same] at kd hu
      refine .inl ⟨3, .inr rfl, by rw [h1]; decide, ?_, by rw [h1]; exact kd, u, by rw [h1]; exact hu⟩
      rw [row3 (.inl h1), drop_add]
    by_cases h2 : hd (ws.drop k) = wSelf
    · obtain ⟨kd, u, hu⟩ := tab_get T.t_TRIPLES X.triples (x := "self") (d := .int 2) (by simp [kv_TRIPLES])
      rw [str_self] at kd hu
      refine .inl ⟨2, .inl rfl, by rw [h2]; decide, ?_, by rw [h2]; exact kd, u, by rw [h2]; exact hu⟩
      rw [row2 h2, drop_add]
    by_cases h3 : hd (ws.drop k) = wPut
    · obtain ⟨kd, u, hu⟩ := tab_get T.t_TRIPLES X.triples (x := "put") (d := .int 3) (by simp [kv_TRIPLES])
      rw [str_put] at kd hu
      refine .inl ⟨3, .inr rfl, by rw [h3]; decide, ?_, by rw [h3]; exact kd, u, by rw [h3]; exact hu⟩
      rw [row3 (.inr h3), drop_add]
    · exact .inr ⟨h1, h2, h3⟩
  rcases hcase with ⟨m, hm, hne, hrow, hkd, u, hu⟩ | ⟨n1, n2, n3⟩
  · have hkl : k < ws.length := lt_of_hd hne
    refine rd_if (est_op (es_inD (es_var rfl hword) hu)) (fun H3 e3 _ => ?_) (fun _ _ hb => by cases hb)
    refine rd_new (esa_cons (es_var rfl (hword.same e3)) esa_nil) (by simp) fun fa H4 its e4 nfa hL hits => ?_
    have e24 := (e2.trans e3).trans e4
    have nfa0 : H fa = none := (e2.trans e3).free nfa
    refine rd_augI (K := K) (m := ((k + 1 : Nat) : Int)) rfl es_int (by omega) fun H5 e5 => ?_
    have e4 := e4.trans e5
    have e24 := e24.trans e5
    have hL := e5 _ _ hL
    have hits := hits.same e5
    refine rd_forR (n := m) (es_getD (es_var rfl (hword.same (e3.trans e4))) hkd fun _ => .int _) (by omega)
      (fun i σ H' => (∃ ts r vn vp items, parts i ar (ws.drop (k + 1)) = some (ts, r) ∧ σ = [some v0, some (.int (posR ws r : Nat)), some v2, some vw, some (.ref fa), vn, vp] ∧ H' fa = some (.lst items) ∧ DtA K H' items (wD (hd (ws.drop k)) :: ts.map K83.T.data) ∧ Same H H'))
      (fun H5 e5 => ⟨[], ws.drop (k + 1), none, none, its, rfl, ?_, e5 _ _ hL, hits.same e5, e24.trans e5⟩) (fun i σ H5 hi hp => ?_) (fun σ H5 hp => ?_)
    · have : posR ws (ws.drop (k + 1)) = k + 1 := by unfold posR; rw [List.length_drop]; omega
      rw [this]
      rfl
    · obtain ⟨ts, r, vn, vp, items, hpa, rfl, hL5, hi5, e5⟩ := hp
      obtain ⟨hpos, hpk, _⟩ := parts_pos hpa
      have hpk := hpk (by omega)
      have hle := pos_le ws r
      have hcl := cost_drop_le (p := 3) ws k (posR ws r) (by omega)
      show tSeq _ _ _ _ _
      refine rd_o2 (x := rd .part ar (ws.drop (posR ws r))) (esa_cons (es_var rfl (hwords.same e5)) (esa_cons (es_var rfl (.int _)) (esa_cons (es_var rfl (haround.same e5)) esa_nil))) ⟨ws, posR ws r, ar, rfl, hle, hl, by omega, by omega, rfl⟩ (fun t' r' v1 v2' H6 hx e6 h1 h2 => ?_) (fun hx v H6 e6 => ?_)
      · obtain rfl := dt_int h2
        have hlen := parts_len hpa
        have hil := hi5.len
        simp at hil
        refine rd_app (i := 4) rfl (e6 _ _ hL5) (by omega) (es_var (i := 6) rfl h1) fun vt H7 e7 hvt hL7 => ?_
        have tk : TK K H7 _ := (Mo.upd (b := fa) (H := H7) (o := .lst (items ++ [vt]))).tk hL7
        refine ⟨ts ++ [t'], r', _, _, _, ?_, rfl, upd_same, ?_, same_own ((e5.trans e6).trans e7) nfa0 _⟩
        · unfold parts
          rw [hpa, Option.bind_some]
          rw [← hpos] at hx
          simp only [hx]
          rfl
        · rw [List.map_append, ← List.cons_append]
          exact ((hi5.same (e6.trans e7)).tk tk (by simp [flatTs, flat_w, flat_terms])).app (.one (hvt.tk tk (flat_term _)))
      · refine q2 ?_ v H6 (e5.trans e6)
        have : parts (i + 1) ar (ws.drop (k + 1)) = none := by
          unfold parts
          rw [hpa, Option.bind_some]
          rw [← hpos] at hx
          simp only [hx]
          rfl
        rw [hrow, parts_none this (by omega)]
        rfl
    · obtain ⟨ts, r, vn, vp, items, hpa, rfl, hL5, hi5, e5⟩ := hp
      have hlen := parts_len hpa
      refine rd_ret (d := .tuple [(mkR (hd (ws.drop k)) ts).data, .int (posR ws r : Nat)]) ((es_tup (esa_cons (es_b cb_tupL (esa_cons (es_var (i := 4) rfl (.lst hL5 hi5)) esa_nil)) (esa_cons (es_var rfl (.int _)) esa_nil))).eq (by rw [mkR_data (by omega)])) fun v H6 e6 hv => q1 _ ?_ v H6 (e5.trans e6) hv
      rw [hrow, hpa]
      rfl
  · refine rd_if (est_op (es_inD (es_var rfl hword) (T.t_TRIPLES.no ?_))) (fun _ _ hb => by cases hb) (fun H3 e3 _ => ?_)
    · rw [str_same, str_self, str_put]
      simp only [List.mem_cons, List.not_mem_nil, or_false, not_or]
      exact ⟨fun e => n1 (SX.S_inj e), fun e => n2 (SX.S_inj e), fun e => n3 (SX.S_inj e)⟩
    have e23 := e2.trans e3
    have hrow := rd_row ar (ws.drop k)
    rw [if_neg (by simp [n1, n3]), if_neg n2] at hrow
    refine rd_o2 (x := rd .part ar (ws.drop k)) (esa_cons (es_var rfl (hwords.same e23)) (esa_cons (es_var rfl (.int _)) (esa_cons (es_var rfl (haround.same e23)) esa_nil))) ⟨ws, k, ar, rfl, hk, hl, har, hc, rfl⟩ (fun t' r' v1 v2' H4 hx e4 h1 h2 => ?_) (fun hx v H4 e4 => ?_)
    · obtain rfl := dt_int h2
      rw [hx, Option.bind_some] at hrow
      have hpos' := rd_pos hx
      have hlt' := pos_lt (part_lt hx)
      refine rd_while (fun m σ H' => ∃ f r vn vp vf, m = r.length ∧ rd (.more f) ar r = rd .row ar (ws.drop k) ∧ r = ws.drop (posR ws r) ∧ k ≤ posR ws r ∧ σ = [some v0, some (.int (posR ws r : Nat)), some v2, some vw, some vf, vn, vp] ∧ Dt K H' vf f.data ∧ Same H H')
        ⟨t', r', none, none, v1, rfl, hrow.symm, hpos', by omega, rfl, h1, e23.trans e4⟩ (fun m σ H5 hp => ?_)
      obtain ⟨f, r, vn, vp, vf, rfl, hrd, hpos, hpk, rfl, hf, e5⟩ := hp
      have hle := pos_le ws r
      have hcl := cost_drop_le (p := 3) ws k (posR ws r) (by omega)
      have hwd : hd (ws.drop (posR ws r)) = hd r := by rw [← hpos]
      have hm := rd_more f ar r
      refine ⟨_, est_or (est_op (es_op od_eqW (es_c (esa_cons (es_var rfl (hwords.same e5)) (esa_cons (es_var rfl (.int _)) esa_nil)) ⟨ws, posR ws r, rfl, rfl⟩) (es_w wOpn))) fun _ => (est_op (es_op od_notN (es_c (esa_cons (es_c (esa_cons (es_var rfl (hwords.same e5)) (esa_cons (es_var rfl (.int _)) esa_nil)) ⟨ws, posR ws r, rfl, rfl⟩) (esa_cons (es_var rfl (haround.same e5)) esa_nil)) ⟨hd (ws.drop (posR ws r)), ar, rfl, mem_len hl _, rfl⟩) es_non)), fun hb H6 e6 => ?_, fun hb H6 e6 => ?_⟩
      · rw [oT_none, hwd] at hb
        rw [if_pos (by simpa using hb)] at hm
        have e56 := e5.trans e6
        refine rd_o2 (x := rd .part ar (ws.drop (posR ws r))) (esa_cons (es_var rfl (hwords.same e56)) (esa_cons (es_var rfl (.int _)) (esa_cons (es_var rfl (haround.same e56)) esa_nil))) ⟨ws, posR ws r, ar, rfl, hle, hl, by omega, by omega, rfl⟩ (fun t2 r2 v3 v4 H7 hx2 e7 h3 h4 => ?_) (fun hx2 v H7 e7 => ?_)
        · obtain rfl := dt_int h4
          have hpos2 := rd_pos hx2
          have hlt2 := part_lt hx2
          rw [← hpos] at hx2 hlt2
          rw [hx2, Option.bind_some] at hm
          refine rd_set (es_tup (esa_cons (es_w wApp) (esa_cons (es_var (i := 4) rfl (hf.same (e6.trans e7))) (esa_cons (es_var (i := 6) rfl h3) esa_nil)))) fun v5 H8 e8 h5 => ?_
          exact ⟨r2.length, hlt2, .n2 wApp f t2, r2, _, _, v5, rfl, hm.symm.trans hrd, hpos2, by unfold posR at hpk ⊢; omega, rfl, h5, (e56.trans e7).trans e8⟩
        · rw [← hpos] at hx2
          rw [hx2] at hm
          exact q2 (by rw [← hrd, hm]; rfl) v H7 (e56.trans e7)
      · rw [oT_none, hwd] at hb
        rw [if_neg (by simpa using hb)] at hm
        refine rd_ret (d := .tuple [f.data, .int (posR ws r : Nat)]) (es_tup (esa_cons (es_var (i := 4) rfl (hf.same e6)) (esa_cons (es_var rfl (.int _)) esa_nil))) fun v H7 e7 hv => q1 _ ?_ v H7 ((e5.trans e6).trans e7) hv
        rw [← hrd, hm]
        rfl
    · rw [hx] at hrow
      exact q2 (by rw [hrow]; rfl) v H4 (e23.trans e4)
end
end K83
namespace K83
open PySem PySem.Spec PyProof.Rows L2
open C8 (Cal pe_c)
theorem ints_ar (n : Nat) : intsD n = ((List.range n).map some).map aD := by
  unfold intsD
  rw [List.map_map]
  rfl
theorem es_listRg {K : PySem.W.Frag} {σ : L2.St} {H : Hp} {t : TE} {n : Nat} (h : Es K t σ H (.int (n : Nat))) (hn : n ≤ 100000) : Es K (tLstRg (tRg1 t)) σ H (.list (((List.range n).map some).map aD)) := fun H1 e1 Q q => h H1 e1 _ fun v H2 e2 hv => by
  cases hv
  refine ⟨_, rfl, RgOk.of_le (by omega) (by omega) (by omega) (by omega), fun p hp => q _ _ (e2.trans (same_new hp _)) (.lst upd_same ?_)⟩
  have e : rgV 0 (n : Int) = ((List.range n).map some).map aV := by
    unfold rgV
    rw [List.map_map, show ((n : Int) - 0).toNat = n by omega]
    apply List.map_congr_left
    intro i _
    show V.int (0 + (i : Int)) = V.int i
    rw [Int.zero_add]
  rw [e]
  exact dt_ar _
section
variable {P : Program} {w : World} {K : PySem.W.Frag} {mg : Str → Option Value} {base : Heap}
abbrev N_read_term : List Str := ["words", "at", "around", "word", "number", "left", "saying", "body", "right"]
abbrev P_read_term : List Str := ["words", "at", "around"]
theorem sc_read_term : FnScope N_read_term P_read_term (defScope s_read_term) := ⟨rfl, rfl, rfl, by decide +kernel, rfl, by decide +kernel, by decide +kernel⟩
theorem c_read_term_step (T : Tx w K mg) (n : Nat) (c_read_row : CalR P w K mg base (n + 6) "read_row" (spO K (RRd .row n))) (c_read_term : CalR P w K mg base (n + 6) "read_term" (spO K (RRd .term (n - 1)))) : CalR P w K mg base (n + 7) "read_term" (spO K (RRd .term n)) := by
  obtain ⟨fd, F⟩ := T.d_read_term
  have X := fx_of T
  have c_word_at := c_word_at (P := P) (base := base) T
  have c_binder_number := c_binder_number (P := P) (base := base) T
  have c_need_word := c_need_word (P := P) (base := base) T
  refine calR_of F (F.ok sc_read_term rrd_len (fun cdv A outer s H vs Q E hr h => ⟨_, (pss_cons (ps_set (i := 3) sc_read_term.nd rfl (Or.inl rfl) (pe_c c_word_at hr (by omega) rfl (pa_cons (pv 0) (pa_cons (pv 1) pa_nil))))
    (pss_cons (ps_if (pt_cmpR (op_inK (K := K)) (pv 3) (pe_tup (pa_cons pe_str (pa_cons pe_str pa_nil))) (by rfl)) (pss_cons (ps_set (i := 4) sc_read_term.nd rfl (Or.inl rfl) (pe_c c_binder_number hr (by omega) rfl (pa_cons (pe_c c_word_at hr (by omega) rfl (pa_cons (pv 0) (pa_cons (pe_op op_add (pv 1) pe_int) pa_nil))) pa_nil)))
    (pss_cons (ps_if (pt_cmpR op_isK (pv 4) pe_non (nomark _)) (pss_one (ps_bad rfl (takes_of rfl rfl rfl rfl) (ini_S T) X.eS hr (by omega) rfl T.g_NoSign (pe_op op_add (pv 1) pe_int))) pss_nil)
    (pss_cons (ps_expr (pe_cr c_need_word hr (by omega) rfl (takes_of rfl rfl rfl rfl) (pa_cons (pv 0) (pa_cons (pe_op op_add (pv 1) pe_int) (pa_cons pe_str pa_nil)))))
    (pss_cons (ps_asg (pe_cr c_read_term hr (by omega) rfl (takes_of rfl rfl rfl rfl) (pa_cons (pv 0) (pa_cons (pe_op op_add (pv 1) pe_int) (pa_cons (pv 2) pa_nil)))) (pg_tup (n := 2) (by rfl) (pgs_cons (pg_name (i := 6) sc_read_term.nd rfl (Or.inl rfl)) (pgs_cons (pg_name (i := 1) sc_read_term.nd rfl (Or.inl rfl)) pgs_nil))))
    (pss_cons (ps_expr (pe_cr c_need_word hr (by omega) rfl (takes_of rfl rfl rfl rfl) (pa_cons (pv 0) (pa_cons (pv 1) (pa_cons pe_str pa_nil)))))
    (pss_cons (ps_asg (pe_cr c_read_term hr (by omega) rfl (takes_of rfl rfl rfl rfl) (pa_cons (pv 0) (pa_cons (pe_op op_add (pv 1) pe_int) (pa_cons (pe_op op_cat (pv 2) (pe_lst (pa_cons (pv 4) pa_nil))) pa_nil)))) (pg_tup (n := 2) (by rfl) (pgs_cons (pg_name (i := 7) sc_read_term.nd rfl (Or.inl rfl)) (pgs_cons (pg_name (i := 1) sc_read_term.nd rfl (Or.inl rfl)) pgs_nil))))
    (pss_one (ps_ret (pe_tup (pa_cons (pe_tup (pa_cons (pv 3) (pa_cons (pv 6) (pa_cons (pv 7) pa_nil)))) (pa_cons (pv 1) pa_nil))))))))))) pss_nil)
    (pss_cons (ps_asg (pe_cr c_read_row hr (by omega) rfl (takes_of rfl rfl rfl rfl) (pa_cons (pv 0) (pa_cons (pv 1) (pa_cons (pv 2) pa_nil)))) (pg_tup (n := 2) (by rfl) (pgs_cons (pg_name (i := 5) sc_read_term.nd rfl (Or.inl rfl)) (pgs_cons (pg_name (i := 1) sc_read_term.nd rfl (Or.inl rfl)) pgs_nil))))
    (pss_cons (ps_if (pt_cmpR op_eq (pe_c c_word_at hr (by omega) rfl (pa_cons (pv 0) (pa_cons (pv 1) pa_nil))) pe_str (nomark _)) (pss_cons (ps_asg (pe_cr c_read_term hr (by omega) rfl (takes_of rfl rfl rfl rfl) (pa_cons (pv 0) (pa_cons (pe_op op_add (pv 1) pe_int) (pa_cons (pe_op op_cat (pv 2) (pe_lst (pa_cons pe_non pa_nil))) pa_nil)))) (pg_tup (n := 2) (by rfl) (pgs_cons (pg_name (i := 8) sc_read_term.nd rfl (Or.inl rfl)) (pgs_cons (pg_name (i := 1) sc_read_term.nd rfl (Or.inl rfl)) pgs_nil))))
    (pss_one (ps_ret (pe_tup (pa_cons (pe_tup (pa_cons pe_str (pa_cons (pv 5) (pa_cons (pv 8) pa_nil)))) (pa_cons (pv 1) pa_nil)))))) pss_nil)
    (pss_one (ps_ret (pe_tup (pa_cons (pv 5) (pa_cons (pv 1) pa_nil))))))))), ?_⟩)) T.g_read_term
    fun _ _ _ _ _ _ us hl => match us, hl with | [_, _, _], _ => rfl
  obtain ⟨ds, o, hvs, ⟨ws, k, ar, rfl, hk, hl, har, hc, rfl⟩, q1, q2⟩ := h
  cases hvs with
  | cons hwords hvs =>
  cases hvs with
  | cons hat hvs =>
  obtain ⟨v2, rfl, haround⟩ := hvs.one_inv
  obtain rfl := dt_int hat
  have hrd := rd_term ar (ws.drop k)
  have arlen : (ar.map aD).length = ar.length := by simp
  refine rd_set (es_c (esa_cons (es_var rfl hwords) (esa_cons (es_var rfl hat) esa_nil)) ⟨ws, k, rfl, rfl⟩) fun vw H2 e2 hword => ?_
  refine rd_if (est_op (es_op (od_inT (ws := [wAll, wFun])) (es_var rfl hword) (es_tup (esa_cons (es_w wAll) (esa_cons (es_w wFun) esa_nil))))) (fun H3 e3 hb => ?_) (fun H3 e3 hb => ?_)
  · have hb : hd (ws.drop k) = wAll ∨ hd (ws.drop k) = wFun := by simpa using hb
    rw [if_pos hb] at hrd
    have e23 := e2.trans e3
    have hkl : k < ws.length := lt_of_hd (by rcases hb with h | h <;> rw [h] <;> decide)
    have d1 : (ws.drop k).drop 1 = ws.drop (k + 1) := drop_add ws k
    have d2 : (ws.drop k).drop 2 = ws.drop (k + 2) := by rw [List.drop_drop]
    have d3 : (ws.drop k).drop 3 = ws.drop (k + 3) := by rw [List.drop_drop]
    rw [d1, d2, d3] at hrd
    have hc0 := cost_lt (j := k + 1) hkl (by omega)
    refine rd_set (es_c (esa_cons (es_c (esa_cons (es_var rfl (hwords.same e23)) (esa_cons (es_op od_add (es_var rfl (.int _)) es_int) esa_nil)) ⟨ws, k + 1, by simp, rfl⟩) esa_nil) ⟨hd (ws.drop (k + 1)), rfl, mem_len hl _, rfl⟩) fun vn H4 e4 hnumber => ?_
    have e24 := e23.trans e4
    refine rd_if (est_op (es_op od_isN (es_var rfl hnumber) es_non)) (fun H5 e5 hb2 => ?_) (fun H5 e5 hb2 => ?_)
    · rw [aD_none] at hb2
      have hn : bnd (hd (ws.drop (k + 1))) = none := by simpa using hb2
      rw [hn] at hrd
      exact rd_bad (es_op od_add (es_var rfl (.int _)) es_int) fun v H6 e6 hv => q2 (by rw [hrd]; rfl) v H6 ((e24.trans e5).trans e6)
    rw [aD_none] at hb2
    cases hn : bnd (hd (ws.drop (k + 1))) with
    | none => rw [hn] at hb2; cases hb2
    | some num =>
    rw [hn, Option.bind_some] at hrd
    rw [hn] at hnumber
    have e25 := e24.trans e5
    refine rd_o0 (esa_cons (es_var rfl (hwords.same e25)) (esa_cons (es_op od_add (es_var rfl (.int _)) es_int) (esa_cons (es_w wCol) esa_nil))) ⟨ws, k + 2, wCol, by simp, rfl⟩ (fun d H6 ho e6 => ?_) (fun ho v H6 e6 => ?_)
    · have hcol : hd (ws.drop (k + 2)) = wCol := Decidable.byContradiction fun z => by rw [if_neg z] at ho; cases ho
      rw [if_pos hcol] at hrd
      have hk2 : k + 2 < ws.length := lt_of_hd (by rw [hcol]; decide)
      have e26 := e25.trans e6
      have hc3 := cost_lt (j := k + 3) hkl (by omega)
      refine rd_o2 (x := rd .term ar (ws.drop (k + 3))) (esa_cons (es_var rfl (hwords.same e26)) (esa_cons (es_op od_add (es_var rfl (.int _)) es_int) (esa_cons (es_var rfl (haround.same e26)) esa_nil))) ⟨ws, k + 3, ar, by simp, by omega, hl, by omega, by omega, rfl⟩ (fun sy r v1 v2' H7 hx e7 h1 h2 => ?_) (fun hx v H7 e7 => ?_)
      · obtain rfl := dt_int h2
        rw [hx, Option.bind_some] at hrd
        have hpos := rd_pos hx
        have hlt := pos_lt (term_lt hx)
        have e27 := e26.trans e7
        refine rd_o0 (esa_cons (es_var rfl (hwords.same e27)) (esa_cons (es_var rfl (.int _)) (esa_cons (es_w wDot) esa_nil))) ⟨ws, posR ws r, wDot, rfl, rfl⟩ (fun d H8 ho2 e8 => ?_) (fun ho2 v H8 e8 => ?_)
        · rw [← hpos] at ho2
          have hdot : hd r = wDot := Decidable.byContradiction fun z => by rw [if_neg z] at ho2; cases ho2
          rw [if_pos hdot] at hrd
          obtain ⟨hp1, hp2⟩ := pos_next (hd_ne (by rw [hdot]; decide)) hpos
          have hrdrop : r.drop 1 = ws.drop (posR ws r + 1) := (congrArg (List.drop 1) hpos).trans (drop_add ws _)
          have e28 := e27.trans e8
          have hcr := cost_lt (j := posR ws r + 1) hkl (by omega)
          rw [hrdrop] at hrd
          refine rd_o2 (x := rd .term (ar ++ [some num]) (ws.drop (posR ws r + 1))) (esa_cons (es_var rfl (hwords.same e28)) (esa_cons (es_op od_add (es_var rfl (.int _)) es_int) (esa_cons (es_op (od_cat (es := [aD (some num)]) (by simp; omega)) (es_var rfl (haround.same e28)) (es_lst (esa_cons (es_var (i := 4) rfl (hnumber.same ((((e5.trans e6).trans e7).trans e8)))) esa_nil))) esa_nil))) ⟨ws, posR ws r + 1, ar ++ [some num], by simp, by omega, hl, by simp; omega, by omega, rfl⟩ (fun bo r2 v3 v4 H9 hx2 e9 h3 h4 => ?_) (fun hx2 v H9 e9 => ?_)
          · obtain rfl := dt_int h4
            rw [hx2, Option.bind_some] at hrd
            have e3w := ((((((e3.trans e4).trans e5).trans e6).trans e7).trans e8).trans e9)
            refine rd_ret (d := .tuple [(K83.T.n2 (hd (ws.drop k)) sy bo).data, .int (posR ws r2 : Nat)]) (es_tup (esa_cons (es_tup (esa_cons (es_var (i := 3) rfl (hword.same e3w)) (esa_cons (es_var (i := 6) rfl (h1.same (e8.trans e9))) (esa_cons (es_var (i := 7) rfl h3) esa_nil)))) (esa_cons (es_var (i := 1) rfl (.int _)) esa_nil))) fun v H10 e10 hv => q1 _ (by rw [hrd]; rfl) v H10 ((e28.trans e9).trans e10) hv
          · rw [hx2] at hrd
            exact q2 (by rw [hrd]; rfl) v H9 (e28.trans e9)
        · rw [← hpos] at ho2
          have hdot : hd r ≠ wDot := fun z => by rw [if_pos z] at ho2; cases ho2
          rw [if_neg hdot] at hrd
          exact q2 (by rw [hrd]; rfl) v H8 (e27.trans e8)
      · rw [hx] at hrd
        exact q2 (by rw [hrd]; rfl) v H7 (e26.trans e7)
    · have hne : hd (ws.drop (k + 2)) ≠ wCol := fun z => by rw [if_pos z] at ho; cases ho
      rw [if_neg hne] at hrd
      exact q2 (by rw [hrd]; rfl) v H6 (e25.trans e6)
  · have hb : ¬ (hd (ws.drop k) = wAll ∨ hd (ws.drop k) = wFun) := by simpa using hb
    rw [if_neg hb] at hrd
    have e23 := e2.trans e3
    refine rd_o2 (x := rd .row ar (ws.drop k)) (esa_cons (es_var rfl (hwords.same e23)) (esa_cons (es_var rfl (.int _)) (esa_cons (es_var rfl (haround.same e23)) esa_nil))) ⟨ws, k, ar, rfl, hk, hl, har, hc, rfl⟩ (fun lf r v1 v2' H4 hx e4 h1 h2 => ?_) (fun hx v H4 e4 => ?_)
    · obtain rfl := dt_int h2
      rw [hx, Option.bind_some] at hrd
      have hpos := rd_pos hx
      have hlt := pos_lt (row_lt hx)
      have e24 := e23.trans e4
      refine rd_if (est_op (es_op od_eqW (es_c (esa_cons (es_var rfl (hwords.same e24)) (esa_cons (es_var rfl (.int _)) esa_nil)) ⟨ws, posR ws r, rfl, rfl⟩) (es_w wArr))) (fun H5 e5 hb2 => ?_) (fun H5 e5 hb2 => ?_)
      · rw [← hpos] at hb2
        have harr : hd r = wArr := by simpa using hb2
        rw [if_pos harr] at hrd
        obtain ⟨hp1, hp2⟩ := pos_next (hd_ne (by rw [harr]; decide)) hpos
        have hrdrop : r.drop 1 = ws.drop (posR ws r + 1) := (congrArg (List.drop 1) hpos).trans (drop_add ws _)
        have e25 := e24.trans e5
        have hcr := cost_lt (j := posR ws r + 1) hlt.2 (by omega)
        rw [hrdrop] at hrd
        refine rd_o2 (x := rd .term (ar ++ [none]) (ws.drop (posR ws r + 1))) (esa_cons (es_var rfl (hwords.same e25)) (esa_cons (es_op od_add (es_var rfl (.int _)) es_int) (esa_cons (es_op (od_cat (es := [aD none]) (by simp; omega)) (es_var rfl (haround.same e25)) (es_lst (esa_cons es_non esa_nil))) esa_nil))) ⟨ws, posR ws r + 1, ar ++ [none], by simp, by omega, hl, by simp; omega, by omega, rfl⟩ (fun bo r2 v3 v4 H9 hx2 e9 h3 h4 => ?_) (fun hx2 v H9 e9 => ?_)
        · obtain rfl := dt_int h4
          rw [hx2, Option.bind_some] at hrd
          refine rd_ret (d := .tuple [(K83.T.n2 wAll lf bo).data, .int (posR ws r2 : Nat)]) (es_tup (esa_cons (es_tup (esa_cons (es_w wAll) (esa_cons (es_var (i := 5) rfl (h1.same (e5.trans e9))) (esa_cons (es_var (i := 8) rfl h3) esa_nil)))) (esa_cons (es_var (i := 1) rfl (.int _)) esa_nil))) fun v H10 e10 hv => q1 _ (by rw [hrd]; rfl) v H10 ((e25.trans e9).trans e10) hv
        · rw [hx2] at hrd
          exact q2 (by rw [hrd]; rfl) v H9 (e25.trans e9)
      · rw [← hpos] at hb2
        have harr : hd r ≠ wArr := by simpa using hb2
        rw [if_neg harr] at hrd
        refine rd_ret (d := .tuple [lf.data, .int (posR ws r : Nat)]) (es_tup (esa_cons (es_var (i := 5) rfl (h1.same e5)) (esa_cons (es_var (i := 1) rfl (.int _)) esa_nil))) fun v H10 e10 hv => q1 _ (by rw [hrd]; rfl) v H10 ((e24.trans e5).trans e10) hv
    · rw [hx] at hrd
      exact q2 (by rw [hrd]; rfl) v H4 (e23.trans e4)
theorem c_read_term (T : Tx w K mg) : ∀ n : Nat, CalR P w K mg base (n + 7) "read_term" (spO K (RRd .term n)) := by
  intro n
  induction n using Nat.strongRecOn with
  | ind n ih =>
  have no : ∀ k, CalR P w K mg base k "read_term" (spO K (RRd .term 0)) := fun k => by
    obtain ⟨fd, F⟩ := T.d_read_term
    exact cal_no (ps := P_read_term) F T.g_read_term rrd_no fun _ _ _ _ _ _ us hl => match us, hl with | [_, _, _], _ => rfl
  have c1 : CalR P w K mg base (n + 4) "read_term" (spO K (RRd .term (n - 3))) := by
    by_cases h : 3 ≤ n
    · have := ih (n - 3) (by omega)
      rw [show n - 3 + 7 = n + 4 by omega] at this
      exact this
    · rw [show n - 3 = 0 by omega]
      exact no _
  have c2 : CalR P w K mg base (n + 6) "read_term" (spO K (RRd .term (n - 1))) := by
    by_cases h : 1 ≤ n
    · have := ih (n - 1) (by omega)
      rw [show n - 1 + 7 = n + 6 by omega] at this
      exact this
    · rw [show n - 1 = 0 by omega]
      exact no _
  exact c_read_term_step T n (c_read_row T n (c_read_part T n c1)) c2
/-! ### read_words -/
def mostCost : Nat := 210
def RWords : List PyData → Option PyData → Prop := fun ds o => ∃ (ws : List Wd) (k : Nat), ds = [.list (wsD ws), .int k] ∧ ws.length ≤ 4000 ∧ (∀ w ∈ ws, w.length ≤ 4000) ∧ cost 3 ws < mostCost ∧ k ≤ 4000 ∧ o = (rdW ws k).map T.data
abbrev N_read_words : List Str := ["words", "names", "found", "at"]
abbrev P_read_words : List Str := ["words", "names"]
theorem sc_read_words : FnScope N_read_words P_read_words (defScope s_read_words) := ⟨rfl, rfl, rfl, by decide +kernel, rfl, by decide +kernel, by decide +kernel⟩
theorem c_read_words (T : Tx w K mg) : CalR P w K mg base 218 "read_words" (spO K RWords) := by
  obtain ⟨fd, F⟩ := T.d_read_words
  have X := fx_of T
  have c_read_term := c_read_term (P := P) (base := base) T mostCost
  refine calR_of F (F.ok sc_read_words (spO_len fun ds d h => by obtain ⟨_, _, rfl, _⟩ := h; rfl) (fun cdv A outer s H vs Q E hr h => ⟨_, (pss_cons (ps_asg (pe_cr c_read_term hr (by decide) rfl (takes_of rfl rfl rfl rfl) (pa_cons (pv 0) (pa_cons pe_int (pa_cons (pe_listRg rfl rfl T.n_list (prg_1 rfl T.n_range (pv 1))) pa_nil)))) (pg_tup (n := 2) (by rfl) (pgs_cons (pg_name (i := 2) sc_read_words.nd rfl (Or.inl rfl)) (pgs_cons (pg_name (i := 3) sc_read_words.nd rfl (Or.inl rfl)) pgs_nil))))
    (pss_cons (ps_if (pt_cmpR op_lt (pv 3) (pe_callB (call_lenK (K := K)) rfl T.n_len PySem.boot_len (pa_cons (pv 0) pa_nil)) (nomark _)) (pss_one (ps_bad rfl (takes_of rfl rfl rfl rfl) (ini_S T) X.eS hr (by omega) rfl T.g_NoSign (pv 3))) pss_nil)
    (pss_one (ps_ret (pv 2))))), ?_⟩)) T.g_read_words
    fun _ _ _ _ _ _ us hl => match us, hl with | [_, _], _ => rfl
  obtain ⟨ds, o, hvs, ⟨ws, k, rfl, hwl, hl, hc, hk, rfl⟩, q1, q2⟩ := h
  cases hvs with
  | cons hwords hvs =>
  obtain ⟨v2, rfl, hnames⟩ := hvs.one_inv
  have hout : rdW ws k = match rd .term ((List.range k).map some) ws with | some (t, []) => some t | _ => none := rfl
  refine rd_o2 (x := rd .term ((List.range k).map some) (ws.drop 0)) (esa_cons (es_var rfl hwords) (esa_cons es_int (esa_cons (es_listRg (es_var rfl hnames) (by omega)) esa_nil))) ⟨ws, 0, (List.range k).map some, rfl, by omega, hl, by simp; omega, hc, rfl⟩ (fun t' r v1 v2' H2 hx e2 h1 h2 => ?_) (fun hx v H2 e2 => ?_)
  · obtain rfl := dt_int h2
    rw [List.drop_zero] at hx
    rw [hx] at hout
    refine rd_if (est_op (es_op od_cmp (es_var rfl (.int _)) (es_b cb_lenL (esa_cons (es_var rfl (hwords.same e2)) esa_nil)))) (fun H3 e3 hb => ?_) (fun H3 e3 hb => ?_)
    · refine rd_bad (es_var rfl (.int _)) fun v H4 e4 hv => q2 ?_ v H4 ((e2.trans e3).trans e4)
      simp [wsD_len] at hb
      cases r with
      | nil => unfold posR at hb; simp at hb
      | cons a r => rw [hout]; rfl
    · refine rd_ret (d := t'.data) (es_var rfl (h1.same e3)) fun v H4 e4 hv => q1 _ ?_ v H4 ((e2.trans e3).trans e4) hv
      simp [wsD_len] at hb
      have hlt := term_lt hx
      cases r with
      | nil => rw [hout]; rfl
      | cons a r => unfold posR at hb; simp at hb hlt; omega
  · rw [List.drop_zero] at hx
    rw [hx] at hout
    exact q2 (by rw [hout]; rfl) v H2 e2
end
end K83
namespace K83
open PySem PySem.Spec PyProof.Rows L2
/-! ### zip(text, tuple) -/
/-- the signs of z with the tuple at b, in new pairs -/
def ItST (K : PySem.W.Frag) (z : Str) (b : Addr) : It where
  go := fun i H => ∃ (ys : List V) (c : Nat) (y : V), SqT K H b ys ∧ z.cps[i]? = some c ∧ ys[i]? = some y
  yld := fun i H v H' => ∃ (T : Addr) (c : Nat) (y : V), v = .ref T ∧ H T = none ∧ H' = upd H T (.tup [.str ⟨#[c]⟩, y]) ∧ z.cps[i]? = some c ∧ ∀ ys, SqT K H b ys → ys[i]? = some y
  stop := fun i H => ∃ ys : List V, SqT K H b ys ∧ i = min z.cps.size ys.length
def tnST (z : Str) (t : Tok) (b zi TI TO i1 i2 : Addr) (i : Nat) (h : Heap) : Prop :=
  IsZip h zi TI TO .none ∧ IsTupOf2 h TI (.ref i1) (.ref i2) ∧ (∃ x y, IsTupOf2 h TO x y) ∧ h.IsStrIter i1 (strIterType z) z t i ∧ h.IsTupleIter i2 b i
theorem turn_st {P : Program} {w : World} {K : PySem.W.Frag} {elts : List Expr} {kk : Nat} {tpos : Pos} {z : Str} {t : Tok} {b zi TI TO i1 i2 : Addr} (S : ZipSep2 zi TI TO i1 i2 [i1] [i2, b]) :
    Turn P w K (.Tuple elts kk tpos) (ItST K z b) [zi, TI, TO, i1, i2] zi (tnST z t b zi TI TO i1 i2) where
  mem := List.mem_cons_self
  obj := fun i h st c hc => by
    obtain ⟨hz, hTI, ⟨x, y, hTO⟩, ⟨o1, e1, _, d1⟩, ⟨o2, e2, _, d2⟩⟩ := st
    simp only [List.mem_cons, List.not_mem_nil, or_false] at hc
    rcases hc with rfl | rfl | rfl | rfl | rfl
    · exact ⟨_, hz, nofun⟩
    · exact ⟨_, hTI, nofun⟩
    · exact ⟨_, hTO, nofun⟩
    · exact ⟨o1, e1, fun v q => by rw [d1] at q; cases q⟩
    · exact ⟨o2, e2, fun v q => by rw [d2] at q; cases q⟩
  keep := fun i h h' st k => by
    obtain ⟨hz, hTI, ⟨x, y, hTO⟩, h1, h2⟩ := st
    exact ⟨k zi (by simp) _ hz, k TI (by simp) _ hTI, ⟨x, y, k TO (by simp) _ hTO⟩, (let ⟨o, e1, r⟩ := h1; ⟨o, k i1 (by simp) _ e1, r⟩), h2.at fun o q => k i2 (by simp) o q⟩
  item := by
    intro X hP hw hK hc i pins s σ H E I hf st hg
    subst hP hw hK
    obtain ⟨hz, hTI, hTO, h1, h2⟩ := st
    obtain ⟨ys, c, y, hqy, hcc, hy⟩ := hg
    obtain ⟨its, rv, p, _⟩ := I.tuple hqy
    obtain ⟨u, hu, ru⟩ := rv.get hy
    have hne : b ≠ i2 := fun e => by
      obtain ⟨o, e1, e2, _⟩ := p
      obtain ⟨o2, e3, e4, _⟩ := h2
      rw [e, e3] at e1
      cases e1
      rw [e4] at e2
      exact absurd e2 (by decide)
    have hA : X.A.in1.handled = none := I.ok.hd hc
    have W := GoesN.zip2 (prog := X.prog) (w := X.w) (A := X.A) (elts := elts) (x1 := kk) (pos := tpos) S (Draws.text hA i1 z t) (Draws.tuple hA i2 b hne its.toArray)
    have hlt : i < min z.cps.size its.toArray.size := by
      have a1 : i < z.cps.size := (Array.getElem?_eq_some_iff.mp hcc).1
      have a2 : i < its.length := (List.getElem?_eq_some_iff.mp hu).1
      have e : its.toArray.size = its.length := by simp
      rw [e]
      omega
    refine W.goes i s _ E hlt ⟨hz, hTI, hTO, h1, h2, p⟩ fun v h' tk hY st' hk _ => ?_
    obtain ⟨T, x, y', rfl, hT, ⟨c', tu, hc', rfl⟩, hy', hTT⟩ := hY
    rw [hcc] at hc'
    cases hc'
    have ey : y' = u := by
      have q : its[i]? = some y' := by simpa using hy'
      rw [hu] at q
      exact (Option.some.inj q).symm
    subst ey
    obtain ⟨hz', hTI', hTO', h1', h2', p'⟩ := st'
    have new : ObjOk X.prog X.w (upd H T (.tup [.str ⟨#[c]⟩, y])) h' T (.tup [.str ⟨#[c]⟩, y]) := ⟨by show 2 ≤ sizeLine; decide, [_, y'], .cons ⟨tu, rfl⟩ (.cons ru .nil), hTT⟩
    have I1 : Inv X pins σ (upd H T (.tup [.str ⟨#[c]⟩, y])) { s with heap := h', toks := tk } :=
      I.turnedNew (t' := tk) (ch := [zi, TI, TO, i1, i2]) (fun c o hb q => hk c o (fun q' => hb (by simp at q' ⊢; rcases q' with q' | q' | q' | q' <;> simp [q'])) q) hf hT new
    refine ⟨.ref T, _, I1, rfl, ⟨T, c, y, rfl, I.hok.fresh hT, rfl, hcc, fun l hl => by rw [I.tuple_inj hl hqy]; exact hy⟩, ⟨hz', hTI', hTO', h1', h2'⟩, fun q hq => ?_⟩
    have hlt2 : q < s.heap.objs.size := by
      simp only [List.mem_cons, List.not_mem_nil, or_false] at hq
      obtain ⟨x0, y0, hTO⟩ := hTO
      rcases hq with rfl | rfl | rfl | rfl | rfl
      · exact Heap.lt_size hz
      · exact Heap.lt_size hTI
      · exact Heap.lt_size hTO
      · obtain ⟨_, e1, _⟩ := h1; exact Heap.lt_size e1
      · obtain ⟨_, e2, _⟩ := h2; exact Heap.lt_size e2
    rw [upd_ne (Nat.ne_of_lt (Nat.lt_of_lt_of_le hlt2 hT))]
    exact (hf q hq).1
  done := by
    intro X hP hw hK hc i pins s σ H E I hf st hg
    subst hP hw hK
    obtain ⟨hz, hTI, hTO, h1, h2⟩ := st
    obtain ⟨ys, hqy, hend⟩ := hg
    obtain ⟨its, rv, p, _⟩ := I.tuple hqy
    have hne : b ≠ i2 := fun e => by
      obtain ⟨o, e1, e2, _⟩ := p
      obtain ⟨o2, e3, e4, _⟩ := h2
      rw [e, e3] at e1
      cases e1
      rw [e4] at e2
      exact absurd e2 (by decide)
    have hA : X.A.in1.handled = none := I.ok.hd hc
    have W := GoesN.zip2 (prog := X.prog) (w := X.w) (A := X.A) (elts := elts) (x1 := kk) (pos := tpos) S (Draws.text hA i1 z t) (Draws.tuple hA i2 b hne its.toArray)
    have hi : i = min z.cps.size its.toArray.size := by
      have e : its.toArray.size = its.length := by simp
      rw [hend, rv.length, e]
    refine W.stops s _ E (by rw [← hi]; exact ⟨hz, hTI, hTO, h1, h2, p⟩) fun h' tk hk _ => ?_
    exact I.turnedL (t' := tk) (ch := [zi, TI, TO, i1, i2]) (fun c o hb q => hk c o (fun q' => hb (by simp at q' ⊢; rcases q' with q' | q' | q' | q' <;> simp [q'])) q) hf
  self := fun A i s Q E st h => wpAny_pyIter_zip st.1 h
def iST (K : PySem.W.Frag) (ta : TA) : TI := fun σ H R => ta σ H fun vs H1 => ∃ (z : Str) (b : Addr) (ys : List V), vs = [.str z, .ref b] ∧ SqT K H1 b ys ∧ R (ItST K z b) H1
theorem pi_st {X : Cx} {e e2 : Expr} {ta : TA} {p pos tpos : Pos} {elts : List Expr} {kk : Nat} (hg : Gl X "zip") (hm : X.mg "zip" = none) (ha : PA X [e, e2] ta)
    (hs : starEach [e, e2] X.env = (false, eval e X.env) :: starEach [e2] X.env := by rfl) (hpl : (backTo pos (starEach [e2] X.env)).any (·.1) = false := by rfl) :
    PI X (.Tuple elts kk tpos) (.Call (.Name "zip" p) [e, e2] [] pos) (iST X.K ta) := by
  refine ⟨fun pins s σ H R I h => ?_⟩
  refine Call_ (ld_blt I hg hm PyProof.Rows.boot_zip (PyProof.Rows.callWith_type1 (thn (ha.run pos pins s σ H _ I h) fun us s1 r => ?_) hs hpl))
  obtain ⟨vs, H1, I1, r1, z, b, ys, ex, hqy, q⟩ := r
  subst ex
  cases r1 with
  | cons r rr =>
    cases rr with
    | cons r' rr =>
      cases rr
      cases r'
      obtain ⟨t, rfl⟩ := r
      obtain ⟨its, rv, p1, _⟩ := I1.tuple hqy
      have hb : b < s1.heap.objs.size := p1.lt
      refine zip_begins2 (begins_text z t) (begins_tuple b its.toArray) trivial p1 fun h' hz hTI hTO h1 h2 hsz hk => wpAny_pyIter_zip hz ?_
      have I2 : Inv X pins σ H1 { s1 with heap := h' } := I1.kept (t' := s1.toks) hk
      have S : ZipSep2 (s1.heap.objs.size + 4) (s1.heap.objs.size + 2) (s1.heap.objs.size + 3) s1.heap.objs.size (s1.heap.objs.size + 1) [s1.heap.objs.size] [s1.heap.objs.size + 1, b] :=
        zip_sep2 (fp1 := []) (fp2 := [b]) (by simp) (by simpa using hb)
      refine ⟨s1.heap.objs.size + 4, [s1.heap.objs.size + 4, s1.heap.objs.size + 2, s1.heap.objs.size + 3, s1.heap.objs.size, s1.heap.objs.size + 1], tnST z t b _ _ _ _ _, _, H1, rfl, I2, turn_st S,
        ⟨hz, hTI, ⟨_, _, hTO⟩, ⟨_, h1, rfl, rfl⟩, ⟨_, h2, rfl, rfl⟩⟩, fun c hcm => ?_, q⟩
      have hle : s1.heap.objs.size ≤ c := by
        simp only [List.mem_cons, List.not_mem_nil, or_false] at hcm
        rcases hcm with rfl | rfl | rfl | rfl | rfl
        · exact Nat.le_add_right _ _
        · exact Nat.le_add_right _ _
        · exact Nat.le_add_right _ _
        · exact Nat.le_refl _
        · exact Nat.le_add_right _ _
      exact I1.fpOk hle (I1.hok.fresh hle)
theorem walk_st {K : PySem.W.Frag} {z : Str} {b : Addr} {ys : List V} {n : Nat} (hn : n = min z.cps.size ys.length) :
    Walk (ItST K z b) n (fun H => SqT K H b ys) (fun i H v H' => ∃ T c y, v = .ref T ∧ H T = none ∧ H' = upd H T (.tup [.str ⟨#[c]⟩, y]) ∧ z.cps[i]? = some c ∧ ys[i]? = some y) := by
  subst hn
  refine ⟨fun i H hi q => ?_, fun H q => ⟨ys, q, rfl⟩, fun i H v H' _ q y => ?_⟩
  · have h1 : i < z.cps.size := by omega
    have h2 : i < ys.length := by omega
    exact ⟨ys, z.cps[i], ys[i], q, by simp [h1], by simp [h2]⟩
  · obtain ⟨T, c, y, h1, h2, h3, h4, h5⟩ := y
    exact ⟨T, c, y, h1, h2, h3, h4, h5 ys q⟩
/-! ### as data -/
section
variable {K : PySem.W.Frag} {σ : L2.St} {H : Hp} {ta : TA} {ds : List PyData}
def zipD (w : Wd) (ds : List PyData) : List PyData := (w.zip ds).map fun p => .tuple [wD [p.1], p.2]
theorem zipD_len {w : Wd} (h : w.length = ds.length) : (zipD w ds).length = ds.length := by simp [zipD, h]
theorem esi_st {w : Wd} (h : EsA K ta σ H [wD w, .tuple ds]) (hl : w.length = ds.length) : EsI K (iST K ta) σ H (zipD w ds) := fun H1 e1 R k => h H1 e1 _ fun vs H2 e2 hv => by
  cases hv with
  | cons h1 hv =>
    obtain ⟨v2, rfl, h2⟩ := hv.one_inv
    cases h1
    cases h2 with
    | @tup b ys _ hT hr =>
      have hlen := hr.len
      have ws : Walk (ItST K (S w) b) ys.length (fun H => SqT K H b ys) (fun i H v H' => ∃ T c y, v = .ref T ∧ H T = none ∧ H' = upd H T (.tup [.str ⟨#[c]⟩, y]) ∧ (S w).cps[i]? = some c ∧ ys[i]? = some y) :=
        walk_st (by rw [show (S w).cps.size = w.length from S_length w]; omega)
      rw [hlen, ← zipD_len hl] at ws
      refine ⟨_, b, ys, rfl, hT, k _ H2 _ _ e2 ws (fun H3 e3 => same_tup e3 hT) fun i H3 x H4 e3 hi y => ?_⟩
      obtain ⟨T, c, z, rfl, hN, rfl, hc, hz⟩ := y
      have hc' : w[i]? = some c := by simpa [S, SX.S] using hc
      obtain ⟨d, hd1, hd2⟩ := hr.get hz
      have e4 : Same H3 (upd H3 T (.tup [.str ⟨#[c]⟩, z])) := same_new hN _
      refine ⟨e4, .tuple [wD [c], d], ?_, .tup (SqT.of upd_same) (.cons (.str _) (.one (hd2.same (e3.trans e4))))⟩
      unfold zipD
      rw [List.getElem?_map, (List.getElem?_zip_eq_some (z := (c, d))).mpr ⟨hc', hd1⟩]
      rfl
/-- a comprehension over two names -/
theorem es_lc2 {wi : TI} {i j : Nat} {tt : TT} {te : TE} {vs : List Nat} {f : PyData → PyData} (hi : EsI K wi σ H ds) (hw : ∀ v u, wipe (((wipe σ vs).set i (some v)).set j (some u)) vs = wipe σ vs) (hl : ds.length ≤ 100000) (hf : ∀ d ∈ ds, flatT (f d) = true)
    (hb : ∀ d ∈ ds, ∃ a b, d = .tuple [a, b] ∧ ∀ v u H2, Same H H2 → Dt K H2 v a → Dt K H2 u b → EsT tt (((wipe σ vs).set i (some v)).set j (some u)) H2 true ∧ Es K te (((wipe σ vs).set i (some v)).set j (some u)) H2 (f d)) :
    Es K (tLc wi (gTup K 2 (gCons (gName i) (gCons (gName j) gNil))) tt te vs) σ H (.list (ds.map f)) := fun H1 e1 Q q => hi H1 e1 _ fun J H2 G Y e2 w hG hY D hD => by
  refine lc_it w (fun j H' => Same H2 H' ∧ ∃ acc, H' D = some (.lst acc) ∧ acc.length ≤ j ∧ DtA K H' acc ((ds.take j).map f)) ⟨same_new hD _, [], upd_same, Nat.zero_le _, by simp; exact .nil⟩ (fun j H' _ g => hG H' g.1) (fun n x H3 H4 hj g y => ?_) (fun H' g => ?_)
  · obtain ⟨g, acc, ha, hlen, hacc⟩ := g
    obtain ⟨e4, d, hd, hx⟩ := hY n H3 x H4 g hj y
    have hm := List.mem_of_getElem? hd
    have es4 : Same H H4 := (e1.trans e2).trans (g.trans e4)
    obtain ⟨a, b, rfl, hb⟩ := hb d hm
    have etk : ds.take (n + 1) = ds.take n ++ [.tuple [a, b]] := by rw [List.take_succ, hd]; rfl
    cases hx with
    | tup hs hr =>
      cases hr with
      | cons h1 hr =>
        obtain ⟨u, rfl, h2⟩ := hr.one_inv
        rename_i v
        obtain ⟨t1, t2⟩ := hb v u H4 es4 h1 h2
        refine ⟨_, _, rfl, hs, rfl, _, _, rfl, _, _, rfl, rfl, hw v u, t1.at fun H5 e5 => iteT (t2 H5 e5 _ fun z H6 e6 hz => ?_)⟩
        have ha6 := e6 _ _ (e5 _ _ (e4 _ _ ha))
        have tk : TK K H6 _ := (Mo.upd (b := D) (H := H6) (o := .lst (acc ++ [z]))).tk ha6
        refine ⟨acc, ha6, len_lt (by omega), same_own (((g.trans e4).trans e5).trans e6) hD _, _, upd_same, by rw [List.length_append]; exact Nat.succ_le_succ hlen, ?_⟩
        rw [etk, List.map_append]
        refine ((hacc.same ((e4.trans e5).trans e6)).tk tk ?_).app (.cons (hz.tk tk (hf _ hm)) .nil)
        have : ∀ l : List PyData, (∀ d ∈ l, d ∈ ds) → flatTs (l.map f) = true := by
          intro l
          induction l with
          | nil => intro _; rfl
          | cons a r ih =>
            intro hl
            rw [List.map_cons, flatTs, hf a (hl a List.mem_cons_self), ih fun d hd => hl d (List.mem_cons_of_mem _ hd)]
            rfl
        exact this _ fun d hd => List.mem_of_mem_take hd
  · obtain ⟨g, acc, ha, _, hacc⟩ := g
    rw [List.take_length] at hacc
    exact q _ _ (e2.trans g) (.lst ha hacc)
end
end K83
namespace K83
open PySem PySem.Spec PyProof.Rows L2
open C8 (Cal pe_c)
/-! ### terms that are well made -/
def T.ok : T → Prop
  | .thing n => isName n = true
  | .at _ => True
  | .kind h => h ≤ 5
  | .name n => isName n = true
  | .maker n _ => isName n = true
  | .eater n h => isName n = true ∧ h ≤ 5
  | .n2 w x y => (w = wAll ∨ w = wFun ∨ w = wApp ∨ w = wSelf) ∧ x.ok ∧ y.ok
  | .n3 w x y z => (w = wSame ∨ w = wPut) ∧ x.ok ∧ y.ok ∧ z.ok
def T.ht : T → Nat
  | .n2 _ x y => max x.ht y.ht + 1
  | .n3 _ x y z => max x.ht (max y.ht z.ht) + 1
  | _ => 1
theorem T.ht_pos : ∀ t : T, 1 ≤ t.ht := by intro t; cases t <;> simp [T.ht]
def T.word : T → Wd
  | .thing _ => wThing
  | .at _ => [97, 116]
  | .kind _ => [107, 105, 110, 100]
  | .name _ => [110, 97, 109, 101]
  | .maker _ _ => wMaker
  | .eater _ _ => [101, 97, 116, 101, 114]
  | .n2 w _ _ => w
  | .n3 w _ _ _ => w
def T.rest : T → List PyData
  | .thing n => [wD n]
  | .at k => [.int k]
  | .kind h => [.int h]
  | .name n => [wD n]
  | .maker n k => [wD n, .int k]
  | .eater n h => [wD n, .int h]
  | .n2 _ x y => [x.data, y.data]
  | .n3 _ x y z => [x.data, y.data, z.data]
def T.letters : T → Wd
  | .thing _ => [119]
  | .at _ => [110]
  | .kind _ => [104]
  | .name _ => [119]
  | .maker _ _ => [119, 110]
  | .eater _ _ => [119, 104]
  | .n2 _ _ _ => [116, 116]
  | .n3 _ _ _ _ => [116, 116, 116]
theorem T.data_eq (t : T) : t.data = .tuple (wD t.word :: t.rest) := by cases t <;> rfl
theorem T.letters_len (t : T) : t.letters.length = t.rest.length := by cases t <;> rfl
theorem T.letters_le (t : T) : t.letters.length ≤ 3 := by cases t <;> simp [T.letters]
/-- what a letter asks of data -/
def HF (n : Nat) (c : Nat) (d : PyData) : Prop :=
  (c = 110 ∧ ∃ k : Nat, d = .int k) ∨ (c = 104 ∧ ∃ h : Nat, h ≤ 5 ∧ d = .int h) ∨ (c = 119 ∧ ∃ u : Wd, isName u = true ∧ d = wD u) ∨ (c = 116 ∧ ∃ t : T, t.ok ∧ t.ht ≤ n ∧ d = t.data)
theorem hf_of {t : T} {n : Nat} (ho : t.ok) (hn : t.ht ≤ n + 1) {i c : Nat} {d : PyData} (hc : t.letters[i]? = some c) (hd : t.rest[i]? = some d) : HF n c d := by
  cases t with
  | thing m => match i, hc, hd with | 0, hc, hd => cases hc; cases hd; exact .inr (.inr (.inl ⟨rfl, m, ho, rfl⟩))
  | «at» k => match i, hc, hd with | 0, hc, hd => cases hc; cases hd; exact .inl ⟨rfl, k, rfl⟩
  | kind h => match i, hc, hd with | 0, hc, hd => cases hc; cases hd; exact .inr (.inl ⟨rfl, h, ho, rfl⟩)
  | name m => match i, hc, hd with | 0, hc, hd => cases hc; cases hd; exact .inr (.inr (.inl ⟨rfl, m, ho, rfl⟩))
  | maker m k =>
    match i, hc, hd with
    | 0, hc, hd => cases hc; cases hd; exact .inr (.inr (.inl ⟨rfl, m, ho, rfl⟩))
    | 1, hc, hd => cases hc; cases hd; exact .inl ⟨rfl, k, rfl⟩
  | eater m h =>
    match i, hc, hd with
    | 0, hc, hd => cases hc; cases hd; exact .inr (.inr (.inl ⟨rfl, m, ho.1, rfl⟩))
    | 1, hc, hd => cases hc; cases hd; exact .inr (.inl ⟨rfl, h, ho.2, rfl⟩)
  | n2 w x y =>
    have h1 : max x.ht y.ht + 1 ≤ n + 1 := hn
    match i, hc, hd with
    | 0, hc, hd => cases hc; cases hd; exact .inr (.inr (.inr ⟨rfl, x, ho.2.1, by omega, rfl⟩))
    | 1, hc, hd => cases hc; cases hd; exact .inr (.inr (.inr ⟨rfl, y, ho.2.2, by omega, rfl⟩))
  | n3 w x y z =>
    have h1 : max x.ht (max y.ht z.ht) + 1 ≤ n + 1 := hn
    match i, hc, hd with
    | 0, hc, hd => cases hc; cases hd; exact .inr (.inr (.inr ⟨rfl, x, ho.2.1, by omega, rfl⟩))
    | 1, hc, hd => cases hc; cases hd; exact .inr (.inr (.inr ⟨rfl, y, ho.2.2.1, by omega, rfl⟩))
    | 2, hc, hd => cases hc; cases hd; exact .inr (.inr (.inr ⟨rfl, z, ho.2.2.2, by omega, rfl⟩))
section
variable {P : Program} {w : World} {K : PySem.W.Frag} {mg : Str → Option Value} {base : Heap}
theorem form_of (T0 : Tx w K mg) {t : T} (ho : t.ok) : KDct K w (He.ga K "FORMS") (S t.word) (.str (S t.letters)) ∧ ∃ u, PySem.W.nsIn K (He.ga K "FORMS") (S t.word) = some (some u) := by
  have X := fx_of T0
  have go : ∀ (x y : Str) (a b : Wd), (x, He.Dv.str y) ∈ kv_FORMS → x = S a → y = S b → KDct K w (He.ga K "FORMS") (S a) (.str (S b)) ∧ ∃ u, PySem.W.nsIn K (He.ga K "FORMS") (S a) = some (some u) := fun x y a b hq h1 h2 => by
    subst h1 h2
    exact tab_get T0.t_FORMS X.forms hq
  cases t with
  | thing n => exact go "thing" "w" wThing [119] (by simp [kv_FORMS]) (by decide +kernel) (by decide +kernel)
  | «at» k => exact go "at" "n" [97, 116] [110] (by simp [kv_FORMS]) (by decide +kernel) (by decide +kernel)
  | kind h => exact go "kind" "h" [107, 105, 110, 100] [104] (by simp [kv_FORMS]) (by decide +kernel) (by decide +kernel)
  | name n => exact go "name" "w" [110, 97, 109, 101] [119] (by simp [kv_FORMS]) (by decide +kernel) (by decide +kernel)
  | maker n k => exact go "maker" "wn" wMaker [119, 110] (by simp [kv_FORMS]) (by decide +kernel) (by decide +kernel)
  | eater n h => exact go "eater" "wh" [101, 97, 116, 101, 114] [119, 104] (by simp [kv_FORMS]) (by decide +kernel) (by decide +kernel)
  | n2 u x y =>
    rcases ho.1 with rfl | rfl | rfl | rfl
    · exact go "all" "tt" wAll [116, 116] (by simp [kv_FORMS]) (by decide +kernel) (by decide +kernel)
    · exact go "fun" "tt" wFun [116, 116] (by simp [kv_FORMS]) (by decide +kernel) (by decide +kernel)
    · exact go "app" "tt" wApp [116, 116] (by simp [kv_FORMS]) (by decide +kernel) (by decide +kernel)
    · exact go "self" "tt" wSelf [116, 116] (by simp [kv_FORMS]) (by decide +kernel) (by decide +kernel)
  | n3 u x y z =>
    rcases ho.1 with rfl | rfl
    · exact go "same" "ttt" wSame [116, 116, 116] (by simp [kv_FORMS]) (by decide +kernel) (by decide +kernel)
    · exact go "put" "ttt" wPut [116, 116, 116] (by simp [kv_FORMS]) (by decide +kernel) (by decide +kernel)
/-! ### has_form, is_term -/
def RForm (n : Nat) : List PyData → PyData → Prop := fun ds d => ∃ (c : Nat) (x : PyData), ds = [wD [c], x] ∧ HF n c x ∧ d = .bool true
def RTerm (n : Nat) : List PyData → PyData → Prop := fun ds d => ∃ t : T, ds = [t.data] ∧ t.ok ∧ t.ht ≤ n ∧ d = .bool true
abbrev N_has_form : List Str := ["letter", "thing"]
theorem sc_has_form : FnScope N_has_form N_has_form (defScope s_has_form) := ⟨rfl, rfl, rfl, by decide +kernel, rfl, by decide +kernel, by decide +kernel⟩
theorem c_has_form (T : Tx w K mg) {n k : Nat} (hk : 1 ≤ k) (c_is_term : Cal P w K mg base k "is_term" (spD K (RTerm n)) []) : Cal P w K mg base (k + 1) "has_form" (spD K (RForm n)) [] := by
  obtain ⟨fd, F⟩ := T.d_has_form
  obtain ⟨tMOST_KIND, hMOST_KIND⟩ := T.i_MOST_KIND
  have c_is_number := c_is_number (P := P) (base := base) T
  have c_is_whole := c_is_whole (P := P) (base := base) T
  have c_is_name := c_is_name (P := P) (base := base) T
  refine cal_of F (F.ok sc_has_form (spD_len fun ds d h => by obtain ⟨_, _, rfl, _⟩ := h; rfl) (fun cdv A outer s H vs Q E hr h => ⟨_, PSs.nox (pss_cons (ps_if (pt_cmpR op_eq (pv 0) pe_str (nomark _)) (pss_one (ps_ret (pe_c c_is_number hr hk rfl (pa_cons (pv 1) pa_nil)))) pss_nil)
    (pss_cons (ps_if (pt_cmpR op_eq (pv 0) pe_str (nomark _)) (pss_one (ps_ret (pe_c c_is_whole hr hk rfl (pa_cons (pv 1) (pa_cons pe_int (pa_cons (gI hMOST_KIND) pa_nil)))))) pss_nil)
    (pss_cons (ps_if (pt_cmpR op_eq (pv 0) pe_str (nomark _)) (pss_one (ps_ret (pe_c c_is_name hr hk rfl (pa_cons (pv 1) pa_nil)))) pss_nil)
    (pss_one (ps_ret (pe_c c_is_term hr (Nat.le_refl _) rfl (pa_cons (pv 1) pa_nil))))))), ?_⟩)) T.g_has_form
    fun _ _ _ _ _ _ us hl => match us, hl with | [_, _], _ => rfl
  obtain ⟨ds, d, hvs, ⟨c, x, rfl, hq, rfl⟩, q⟩ := h
  cases hvs with
  | cons hletter hvs =>
  obtain ⟨v2, rfl, hthing⟩ := hvs.one_inv
  have t1 := est_op (es_op od_eqW (es_var (K := K) (σ := [some _, some v2]) (i := 0) rfl hletter) (es_w (x := "n") [110]))
  refine rd_if t1 (fun H2 e2 hb => ?_) (fun H2 e2 hb => ?_)
  · rcases hq with ⟨rfl, k', rfl⟩ | ⟨rfl, _⟩ | ⟨rfl, _⟩ | ⟨rfl, _⟩
    · exact rd_ret (d := .bool true) (es_c (esa_cons (es_var rfl (hthing.same e2)) esa_nil) ⟨k', rfl, by simp⟩) fun v H3 e3 hv => q v H3 (e2.trans e3) hv
    all_goals (simp at hb)
  · have n1 : c ≠ 110 := by simpa using hb
    refine rd_if (est_op (es_op od_eqW (es_var rfl (hletter.same e2)) (es_w [104]))) (fun H3 e3 hb => ?_) (fun H3 e3 hb => ?_)
    · rcases hq with ⟨rfl, _⟩ | ⟨rfl, h', hh, rfl⟩ | ⟨rfl, _⟩ | ⟨rfl, _⟩
      · simp at hb
      · exact rd_ret (d := .bool true) (es_c (esa_cons (es_var rfl (hthing.same (e2.trans e3))) (esa_cons es_int (esa_cons es_int esa_nil))) ⟨h', 0, 5, rfl, by simp; omega⟩) fun v H4 e4 hv => q v H4 ((e2.trans e3).trans e4) hv
      all_goals (simp at hb)
    · have n2 : c ≠ 104 := by simpa using hb
      refine rd_if (est_op (es_op od_eqW (es_var rfl (hletter.same (e2.trans e3))) (es_w [119]))) (fun H4 e4 hb => ?_) (fun H4 e4 hb => ?_)
      · rcases hq with ⟨rfl, _⟩ | ⟨rfl, _⟩ | ⟨rfl, u, hu, rfl⟩ | ⟨rfl, _⟩
        · simp at hb
        · simp at hb
        · have := isName_len hu
          exact rd_ret (d := .bool true) (es_c (esa_cons (es_var rfl (hthing.same ((e2.trans e3).trans e4))) esa_nil) ⟨u, rfl, by omega, by rw [hu]⟩) fun v H5 e5 hv => q v H5 (((e2.trans e3).trans e4).trans e5) hv
        · simp at hb
      · have n3 : c ≠ 119 := by simpa using hb
        rcases hq with ⟨h, _⟩ | ⟨h, _⟩ | ⟨h, _⟩ | ⟨rfl, t, ht, hn, rfl⟩
        · exact absurd h n1
        · exact absurd h n2
        · exact absurd h n3
        · exact rd_ret (d := .bool true) (es_c (esa_cons (es_var rfl (hthing.same ((e2.trans e3).trans e4))) esa_nil) ⟨t, rfl, ht, hn, rfl⟩) fun v H5 e5 hv => q v H5 (((e2.trans e3).trans e4).trans e5) hv
abbrev N_is_term : List Str := ["thing", "form", "letter", "part"]
abbrev P_is_term : List Str := ["thing"]
theorem sc_is_term : FnScope N_is_term P_is_term (defScope s_is_term) := ⟨rfl, rfl, rfl, by decide +kernel, rfl, by decide +kernel, by decide +kernel⟩
theorem all_true (n : Nat) : ((List.replicate n true).all id) = true := by simp
theorem c_is_term_step (T : Tx w K mg) {n k : Nat} (hk : 1 ≤ k) (c_has_form : Cal P w K mg base k "has_form" (spD K (RForm n)) []) : Cal P w K mg base (k + 1) "is_term" (spD K (RTerm (n + 1))) [] := by
  obtain ⟨fd, F⟩ := T.d_is_term
  have X := fx_of T
  refine cal_of F (F.ok sc_is_term (spD_len fun ds d h => by obtain ⟨_, rfl, _⟩ := h; rfl) (fun cdv A outer s H vs Q E hr h => ⟨_, PSs.nox (pss_cons (ps_if (PW.pt (pw_or (pt_not (pt_val (xIs (K := K) T.n_isinstance T.n_tuple b_tuple (pv 0)))) (pw_or (pt_cmpR op_eq (pe_callB (call_lenK (K := K)) rfl T.n_len PySem.boot_len (pa_cons (pv 0) pa_nil)) pe_int (nomark _)) (pw_or (pt_not (pt_val (xIs (K := K) T.n_isinstance T.n_str b_str (pe_ix (ix_tupK (K := K)) (pv 0) pe_int (fun _ _ => rfl))))) (pw_or1 (pt_cmpR (op_notInD (K := K) T.t_FORMS) (pe_ix (ix_tupK (K := K)) (pv 0) pe_int (fun _ _ => rfl)) (gR T.g_FORMS) (by rfl))))))) (pss_one (ps_ret pe_bl)) pss_nil)
    (pss_cons (ps_set (i := 1) sc_is_term.nd rfl (Or.inl rfl) (pe_ix (ix_dictK (K := K) (w' := w)) (gR T.g_FORMS) (pe_ix (ix_tupK (K := K)) (pv 0) pe_int (fun _ _ => rfl)) (fun _ _ => rfl)))
    (pss_cons (ps_if (pt_cmpR op_ne (pe_callB (call_lenK (K := K)) rfl T.n_len PySem.boot_len (pa_cons (pv 0) pa_nil)) (pe_op op_add (pe_callB (call_lenK (K := K)) rfl T.n_len PySem.boot_len (pa_cons (pv 1) pa_nil)) pe_int) (nomark _)) (pss_one (ps_ret pe_bl)) pss_nil)
    (pss_one (ps_ret (pe_callB (cr_allK (K := K) rfl) rfl T.n_all b_all (pa_cons (pe_lc (own := [("letter", 2), ("part", 3)]) (g := (gTup K 2 (gCons (gName 2) (gCons (gName 3) gNil)))) (tt := tYes) (by rfl) sc_is_term.nd (pi_st (by rfl) T.n_zip (pa_cons (pv 1) (pa_cons (pe_slice (sl_tupK (K := K)) (pv 0) (po_some pe_int) po_none) pa_nil))) (blkOk_by (N := N_is_term) (sc := defScope s_is_term) (by decide +kernel)) (fun _ _ _ _ _ => (pg_tup (n := 2) (by rfl) (pgs_cons (pg_name (i := 2) sc_is_term.nd rfl (Or.inl rfl)) (pgs_cons (pg_name (i := 3) sc_is_term.nd rfl (Or.inl rfl)) pgs_nil)))) (fun _ _ _ _ _ => pts_nil) (fun _ _ _ _ _ => (pe_c c_has_form hr (Nat.le_refl _) rfl (pa_cons (pv 2) (pa_cons (pv 3) pa_nil))))) pa_nil))))))), ?_⟩)) T.g_is_term
    fun _ _ _ _ _ _ us hl => match us, hl with | [_], _ => rfl
  obtain ⟨ds, d, hvs, ⟨t, rfl, ho, hn, rfl⟩, q⟩ := h
  obtain ⟨v, rfl, hthing⟩ := hvs.one_inv
  rw [K83.T.data_eq] at hthing
  obtain ⟨kd, u, hu⟩ := form_of T ho
  have h3 := t.letters_le
  have hlen := t.letters_len
  have hix := es_op (od_ixT (K := K) (atI_0 (x := wD t.word) (xs := t.rest))) (es_var (σ := [some v, none, none, none]) (i := 0) rfl hthing) (es_int (i := 0))
  refine rd_if (est_or (est_not (est_val (es_is (es_var rfl hthing)))) fun _ => (est_or (est_op (es_op od_eqI (es_b cb_lenT (esa_cons (es_var rfl hthing) esa_nil)) es_int)) fun _ => (est_or (est_not (est_val (es_is hix))) fun _ => (est_op (es_notInD hix hu))))) (fun H2 e2 hb => ?_) (fun H2 e2 _ => ?_)
  · simp [tyD, isB, wD] at hb
    omega
  refine rd_setD (es_op (od_ixT atI_0) (es_var rfl (hthing.same e2)) es_int) kd fun H3 e3 => ?_
  have e23 := e2.trans e3
  have hform : Dt K H3 (.str (S t.letters)) (wD t.letters) := .str _
  refine rd_if (est_op (es_op od_neI (es_b cb_lenT (esa_cons (es_var rfl (hthing.same e23)) esa_nil)) (es_op od_add (es_b (cb_lenW (by omega)) (esa_cons (es_var (i := 1) rfl hform) esa_nil)) es_int))) (fun H4 e4 hb => ?_) (fun H4 e4 _ => ?_)
  · simp [hlen] at hb
  have e24 := e23.trans e4
  refine rd_ret (d := .bool true) ((es_b (cb_all (bs := List.replicate t.rest.length true)) (esa_cons ((es_lc2 (f := fun _ => .bool true) (esi_st (esa_cons (es_var (i := 1) rfl (hform.same e4)) (esa_cons ((es_sl sd_tup (es_var rfl (hthing.same e24)) eso_int eso_no).eq (congrArg PyData.tuple (show cutD (wD t.word :: t.rest) (some 1) none = t.rest from cut_from _ 1))) esa_nil)) hlen) (fun _ _ => rfl) (by rw [zipD_len hlen]; omega) (fun _ _ => rfl) fun d hd => ?_).eq ?_) esa_nil)).eq (by rw [all_true])) fun v H5 e5 hv => q v H5 (e24.trans e5) hv
  · obtain ⟨i, hi, he⟩ := List.mem_iff_getElem.mp hd
    have hg : (zipD t.letters t.rest)[i]? = some d := by rw [List.getElem?_eq_getElem hi, he]
    unfold zipD at hg
    rw [List.getElem?_map] at hg
    cases hz : (t.letters.zip t.rest)[i]? with
    | none => rw [hz] at hg; cases hg
    | some p =>
      rw [hz] at hg
      cases hg
      obtain ⟨z1, z2⟩ := List.getElem?_zip_eq_some.mp hz
      exact ⟨_, _, rfl, fun v u H6 e6 hv hu => ⟨est_yes, es_c (esa_cons (es_var (i := 2) rfl hv) (esa_cons (es_var (i := 3) rfl hu) esa_nil)) ⟨p.1, p.2, rfl, hf_of ho hn z1 z2, rfl⟩⟩⟩
  · congr 1
    rw [List.map_replicate]
    have := zipD_len hlen
    rw [← this, List.map_const']
theorem c_is_term0 (T : Tx w K mg) : Cal P w K mg base 1 "is_term" (spD K (RTerm 0)) [] := by
  obtain ⟨fd, F⟩ := T.d_is_term
  have no : ∀ vs H Q E, ¬ spD K (RTerm 0) vs H Q E := fun vs H Q E h => by
    obtain ⟨_, _, _, ⟨t, _, _, h, _⟩, _⟩ := h
    have := t.ht_pos
    omega
  refine cal_of F (ps := P_is_term) ⟨fun vs H Q E h => absurd h (no vs H Q E), fun A outer s H args us vs Q E _ _ _ _ h => absurd h (no vs H Q E)⟩ T.g_is_term
    fun _ _ _ _ _ _ us hl => match us, hl with | [_], _ => rfl
theorem c_is_term (T : Tx w K mg) : ∀ n : Nat, Cal P w K mg base (2 * n + 1) "is_term" (spD K (RTerm n)) []
  | 0 => c_is_term0 T
  | n + 1 => c_is_term_step T (by omega) (c_has_form T (by omega) (c_is_term T n))
end
end K83
namespace K83
open PySem PySem.Spec PyProof.Rows L2
open C8 (Cal pe_c)
/-! ### rows -/
inductive Row where
  | thing (n : Wd) (h : Nat) (bs : List T) (ms : List (List T))
  | mean (n : Wd) (a b : T)
  | hold (n : Wd) (t : T)
def tsD (ts : List T) : PyData := .tuple (ts.map T.data)
def Row.data : Row → PyData
  | .thing n h bs ms => .tuple [wD wThing, wD n, .int h, tsD bs, .tuple (ms.map tsD)]
  | .mean n a b => .tuple [wD wMean, wD n, a.data, b.data]
  | .hold n t => .tuple [wD wHold, wD n, t.data]
def Row.name : Row → Wd
  | .thing n _ _ _ => n
  | .mean n _ _ => n
  | .hold n _ => n
/-- as it is made by the reader: heights of terms below m -/
def Row.ok (m : Nat) : Row → Prop
  | .thing n h bs ms => isName n = true ∧ h ≤ 5 ∧ (∀ t ∈ bs, t.ok ∧ t.ht ≤ m) ∧ (∀ l ∈ ms, ∀ t ∈ l, t.ok ∧ t.ht ≤ m) ∧ bs.length ≤ 1000 ∧ ms.length ≤ 1000 ∧ ∀ l ∈ ms, l.length ≤ 1000
  | .mean n a b => isName n = true ∧ (a.ok ∧ a.ht ≤ m) ∧ (b.ok ∧ b.ht ≤ m)
  | .hold n t => isName n = true ∧ (t.ok ∧ t.ht ≤ m)
/-- within the bounds -/
def Row.good : Row → Bool
  | .thing _ _ bs ms => decide (bs.length ≤ 3) && (decide (ms.length ≤ 5) && ms.all fun l => decide (l.length ≤ 4))
  | _ => true
theorem Row.ok_name {m : Nat} {r : Row} (h : r.ok m) : isName r.name = true := by cases r <;> exact h.1
def maxHt : Nat := 110
theorem ts_len (ts : List T) : (ts.map T.data).length = ts.length := by simp
section
variable {P : Program} {w : World} {K : PySem.W.Frag} {mg : Str → Option Value} {base : Heap}
def RAre : List PyData → PyData → Prop := fun ds d => ∃ (ts : List T) (m : Nat), ds = [tsD ts, .int m] ∧ (∀ t ∈ ts, t.ok ∧ t.ht ≤ maxHt) ∧ ts.length ≤ 1000 ∧ d = .bool (decide (ts.length ≤ m))
abbrev N_are_terms : List Str := ["thing", "most", "part"]
abbrev P_are_terms : List Str := ["thing", "most"]
theorem sc_are_terms : FnScope N_are_terms P_are_terms (defScope s_are_terms) := ⟨rfl, rfl, rfl, by decide +kernel, rfl, by decide +kernel, by decide +kernel⟩
theorem c_are_terms (T : Tx w K mg) : Cal P w K mg base 222 "are_terms" (spD K RAre) [] := by
  obtain ⟨fd, F⟩ := T.d_are_terms
  have c_is_term := c_is_term (P := P) (base := base) T maxHt
  refine cal_of F (F.ok sc_are_terms (spD_len fun ds d h => by obtain ⟨_, _, rfl, _⟩ := h; rfl) (fun cdv A outer s H vs Q E hr h => ⟨_, PSs.nox (pss_one (ps_ret (pe_and (xIs (K := K) T.n_isinstance T.n_tuple b_tuple (pv 0)) (pe_and (pe_cmpR op_le (pe_callB (call_lenK (K := K)) rfl T.n_len PySem.boot_len (pa_cons (pv 0) pa_nil)) (pv 1) (nomark _)) (pe_one (pe_callB (cr_allK (K := K) rfl) rfl T.n_all b_all (pa_cons (pe_lc (own := [("part", 2)]) (g := (gName 2)) (tt := tYes) (by rfl) sc_are_terms.nd (pi_tup (pv 0)) (blkOk_by (N := N_are_terms) (sc := defScope s_are_terms) (by decide +kernel)) (fun _ _ _ _ _ => (pg_name (i := 2) sc_are_terms.nd rfl (Or.inl rfl))) (fun _ _ _ _ _ => pts_nil) (fun _ _ _ _ _ => (pe_c c_is_term hr (by decide) rfl (pa_cons (pv 2) pa_nil)))) pa_nil))))))), ?_⟩)) T.g_are_terms
    fun _ _ _ _ _ _ us hl => match us, hl with | [_, _], _ => rfl
  obtain ⟨ds, d, hvs, ⟨ts, m, rfl, ho, hl, rfl⟩, q⟩ := h
  cases hvs with
  | cons hthing hvs =>
  obtain ⟨v2, rfl, hmost⟩ := hvs.one_inv
  unfold tsD at hthing
  refine rd_ret ((es_and (es_is (es_var rfl hthing)) fun _ => (es_and (es_op od_cmp (es_b cb_lenT (esa_cons (es_var rfl hthing) esa_nil)) (es_var rfl hmost)) fun _ => (es_b (cb_all (bs := List.replicate ts.length true)) (esa_cons ((es_lc (p := fun _ => true) (f := fun _ => PyData.bool true) (esi_tup (es_var rfl hthing)) (fun _ => rfl) (by rw [ts_len]; omega) (fun _ _ _ => rfl) fun d hd v H3 e3 hv => ?_).eq ?_) esa_nil)))).eq ?_) q
  · obtain ⟨t, ht, rfl⟩ := List.mem_map.mp hd
    exact ⟨est_yes, fun _ => es_c (esa_cons (es_var (i := 2) rfl hv) esa_nil) ⟨t, rfl, (ho t ht).1, (ho t ht).2, rfl⟩⟩
  · rw [all_filter, List.map_replicate, List.map_const', ts_len]
  · rw [all_true, ts_len]
    simp [tyD, isB]
/-! ### is_thing_row, is_mean_row, is_hold_row, is_row -/
def RRow (p : Row → Prop) : List PyData → PyData → Prop := fun ds d => ∃ r : Row, p r ∧ ds = [r.data] ∧ r.ok maxHt ∧ d = .bool r.good
theorem rrow_len {p : Row → Prop} : ∀ vs H Q E, spD K (RRow p) vs H Q E → vs.length = 1 := spD_len fun ds d h => by obtain ⟨_, _, rfl, _⟩ := h; rfl
def isThing : Row → Prop
  | .thing _ _ _ _ => True
  | _ => False
def isMean : Row → Prop
  | .mean _ _ _ => True
  | _ => False
def isHold : Row → Prop
  | .hold _ _ => True
  | _ => False
abbrev N_is_thing_row : List Str := ["thing", "maker"]
abbrev P_is_thing_row : List Str := ["thing"]
theorem sc_is_thing_row : FnScope N_is_thing_row P_is_thing_row (defScope s_is_thing_row) := ⟨rfl, rfl, rfl, by decide +kernel, rfl, by decide +kernel, by decide +kernel⟩
theorem atI_1 {α : Type} {x y : α} {xs : List α} : atI (x :: y :: xs) 1 = some y := atI_nat (j := 1) rfl
theorem atI_2 {α : Type} {x y z : α} {xs : List α} : atI (x :: y :: z :: xs) 2 = some z := atI_nat (j := 2) rfl
theorem atI_3 {α : Type} {x y z u : α} {xs : List α} : atI (x :: y :: z :: u :: xs) 3 = some u := atI_nat (j := 3) rfl
theorem atI_4 {α : Type} {x y z u v : α} {xs : List α} : atI (x :: y :: z :: u :: v :: xs) 4 = some v := atI_nat (j := 4) rfl
theorem a_is_thing_row (T : Tx w K mg) : C8.CalAt P w K mg base 223 (He.ga K "is_thing_row") (spD K (RRow isThing)) := by
  obtain ⟨fd, F⟩ := T.d_is_thing_row
  obtain ⟨tMOST_ARGS, hMOST_ARGS⟩ := T.i_MOST_ARGS
  obtain ⟨tMOST_BOUNDS, hMOST_BOUNDS⟩ := T.i_MOST_BOUNDS
  obtain ⟨tMOST_KIND, hMOST_KIND⟩ := T.i_MOST_KIND
  obtain ⟨tMOST_MAKERS, hMOST_MAKERS⟩ := T.i_MOST_MAKERS
  have c_is_name := c_is_name (P := P) (base := base) T
  have c_is_whole := c_is_whole (P := P) (base := base) T
  have c_are_terms := c_are_terms (P := P) (base := base) T
  refine calAt_of F (F.ok sc_is_thing_row rrow_len (fun cdv A outer s H vs Q E hr h => ⟨_, PSs.nox (pss_cons (ps_if (PW.pt (pw_or (pt_cmpR op_ne (pe_callB (call_lenK (K := K)) rfl T.n_len PySem.boot_len (pa_cons (pv 0) pa_nil)) pe_int (nomark _)) (pw_or (pt_not (pt_val (pe_c c_is_name hr (by decide) rfl (pa_cons (pe_ix (ix_tupK (K := K)) (pv 0) pe_int (fun _ _ => rfl)) pa_nil)))) (pw_or1 (pt_not (pt_val (pe_c c_is_whole hr (by decide) rfl (pa_cons (pe_ix (ix_tupK (K := K)) (pv 0) pe_int (fun _ _ => rfl)) (pa_cons pe_int (pa_cons (gI hMOST_KIND) pa_nil)))))))))) (pss_one (ps_ret pe_bl)) pss_nil)
    (pss_cons (ps_if (PW.pt (pw_or (pt_not (pt_val (pe_c c_are_terms hr (by decide) rfl (pa_cons (pe_ix (ix_tupK (K := K)) (pv 0) pe_int (fun _ _ => rfl)) (pa_cons (gI hMOST_BOUNDS) pa_nil))))) (pw_or (pt_not (pt_val (xIs (K := K) T.n_isinstance T.n_tuple b_tuple (pe_ix (ix_tupK (K := K)) (pv 0) pe_int (fun _ _ => rfl))))) (pw_or1 (pt_cmpR op_gt (pe_callB (call_lenK (K := K)) rfl T.n_len PySem.boot_len (pa_cons (pe_ix (ix_tupK (K := K)) (pv 0) pe_int (fun _ _ => rfl)) pa_nil)) (gI hMOST_MAKERS) (nomark _)))))) (pss_one (ps_ret pe_bl)) pss_nil)
    (pss_one (ps_ret (pe_callB (cr_allK (K := K) rfl) rfl T.n_all b_all (pa_cons (pe_lc (own := [("maker", 1)]) (g := (gName 1)) (tt := tYes) (by rfl) sc_is_thing_row.nd (pi_tup (pe_ix (ix_tupK (K := K)) (pv 0) pe_int (fun _ _ => rfl))) (blkOk_by (N := N_is_thing_row) (sc := defScope s_is_thing_row) (by decide +kernel)) (fun _ _ _ _ _ => (pg_name (i := 1) sc_is_thing_row.nd rfl (Or.inl rfl))) (fun _ _ _ _ _ => pts_nil) (fun _ _ _ _ _ => (pe_c c_are_terms hr (by decide) rfl (pa_cons (pv 1) (pa_cons (gI hMOST_ARGS) pa_nil))))) pa_nil)))))), ?_⟩))
    fun _ _ _ _ _ _ us hl => match us, hl with | [_], _ => rfl
  obtain ⟨ds, d, hvs, ⟨r, hp, rfl, ho, rfl⟩, q⟩ := h
  obtain ⟨v, rfl, hthing⟩ := hvs.one_inv
  cases r with
  | mean _ _ _ => cases hp
  | hold _ _ => cases hp
  | thing n h bs ms =>
  obtain ⟨o1, o2, o3, o4, o5, o6, o7⟩ := ho
  have hn := isName_len o1
  unfold Row.data at hthing
  have ix : ∀ {H'} (e : Same H H') {i : Int} {x : PyData}, atI [wD wThing, wD n, .int h, tsD bs, .tuple (ms.map tsD)] i = some x → Es K (tOp (rIxT K) (tVar 0) (tC (.int i))) [some v, none] H' x := fun {H'} e {i} {x} hx => es_op (od_ixT hx) (es_var rfl (hthing.same e)) es_int
  refine rd_if (est_or (est_op (es_op od_neI (es_b cb_lenT (esa_cons (es_var rfl hthing) esa_nil)) es_int)) fun _ => (est_or (est_not (est_val (es_c (esa_cons (ix (Same.refl H) atI_1) esa_nil) ⟨n, rfl, by omega, rfl⟩))) fun _ => (est_not (est_val (es_c (esa_cons (ix (Same.refl H) atI_2) (esa_cons es_int (esa_cons es_int esa_nil))) ⟨h, 0, 5, rfl, rfl⟩))))) (fun H2 e2 hb => ?_) (fun H2 e2 _ => ?_)
  · rw [o1] at hb
    simp at hb
    omega
  refine rd_if (est_or (est_not (est_val (es_c (esa_cons (ix e2 atI_3) (esa_cons es_int esa_nil)) ⟨bs, 3, rfl, o3, o5, rfl⟩))) fun _ => (est_or (est_not (est_val (es_is (ix e2 atI_4)))) fun _ => (est_op (es_op od_cmp (es_b cb_lenT (esa_cons (ix e2 atI_4) esa_nil)) es_int)))) (fun H3 e3 hb => ?_) (fun H3 e3 hb => ?_)
  · refine rd_ret (d := .bool (Row.good (.thing n h bs ms))) (es_bl.eq ?_) fun v H4 e4 hv => q v H4 ((e2.trans e3).trans e4) hv
    simp [tyD, isB] at hb
    have : Row.good (.thing n h bs ms) = false := by
      unfold Row.good
      rw [Bool.eq_false_iff]
      intro z
      simp at z
      rcases hb with hb | hb
      · omega
      · omega
    rw [this]
  · refine rd_ret (d := .bool (Row.good (.thing n h bs ms))) ((es_b (cb_all (bs := ms.map fun l => decide (l.length ≤ 4))) (esa_cons ((es_lc (p := fun _ => true) (f := fun d => match d with | .tuple ds => PyData.bool (decide (ds.length ≤ 4)) | _ => .none) (esi_tup (ix (e2.trans e3) atI_4)) (fun _ => rfl) (by simp; omega) (fun d hd _ => ?_) fun d hd v H4 e4 hv => ?_).eq ?_) esa_nil)).eq ?_) fun v H4 e4 hv => q v H4 ((e2.trans e3).trans e4) hv
    · obtain ⟨l, hl, rfl⟩ := List.mem_map.mp hd
      rfl
    · obtain ⟨l, hl, rfl⟩ := List.mem_map.mp hd
      exact ⟨est_yes, fun _ => (es_c (esa_cons (es_var (i := 1) rfl hv) (esa_cons es_int esa_nil)) ⟨l, 4, rfl, o4 l hl, o7 l hl, rfl⟩).eq (by simp [tsD])⟩
    · rw [all_filter, List.map_map, List.map_map]
      congr 1
      apply List.map_congr_left
      intro l _
      simp [tsD]
    · simp [tyD, isB] at hb
      unfold Row.good
      rw [List.all_map]
      have h1 : decide (bs.length ≤ 3) = true := decide_eq_true (by omega)
      have h2 : decide (ms.length ≤ 5) = true := decide_eq_true (by omega)
      show _ = PyData.bool (decide (bs.length ≤ 3) && (decide (ms.length ≤ 5) && ms.all fun l => decide (l.length ≤ 4)))
      rw [h1, h2]
      rfl
abbrev N_is_mean_row : List Str := ["thing"]
theorem sc_is_mean_row : FnScope N_is_mean_row N_is_mean_row (defScope s_is_mean_row) := ⟨rfl, rfl, rfl, by decide +kernel, rfl, by decide +kernel, by decide +kernel⟩
theorem a_is_mean_row (T : Tx w K mg) : C8.CalAt P w K mg base 223 (He.ga K "is_mean_row") (spD K (RRow isMean)) := by
  obtain ⟨fd, F⟩ := T.d_is_mean_row
  have c_is_name := c_is_name (P := P) (base := base) T
  have c_are_terms := c_are_terms (P := P) (base := base) T
  refine calAt_of F (F.ok sc_is_mean_row rrow_len (fun cdv A outer s H vs Q E hr h => ⟨_, PSs.nox (pss_one (ps_ret (pe_and (pe_cmpR op_eq (pe_callB (call_lenK (K := K)) rfl T.n_len PySem.boot_len (pa_cons (pv 0) pa_nil)) pe_int (nomark _)) (pe_and (pe_c c_is_name hr (by decide) rfl (pa_cons (pe_ix (ix_tupK (K := K)) (pv 0) pe_int (fun _ _ => rfl)) pa_nil)) (pe_one (pe_c c_are_terms hr (by decide) rfl (pa_cons (pe_slice (sl_tupK (K := K)) (pv 0) (po_some pe_int) po_none) (pa_cons pe_int pa_nil)))))))), ?_⟩))
    fun _ _ _ _ _ _ us hl => match us, hl with | [_], _ => rfl
  obtain ⟨ds, d, hvs, ⟨r, hp, rfl, ho, rfl⟩, q⟩ := h
  obtain ⟨v, rfl, hthing⟩ := hvs.one_inv
  cases r with
  | thing _ _ _ _ => cases hp
  | hold _ _ => cases hp
  | mean n a b =>
  obtain ⟨o1, o2, o3⟩ := ho
  have hn := isName_len o1
  unfold Row.data at hthing
  refine rd_ret (d := .bool true) ((es_and (es_op od_eqI (es_b cb_lenT (esa_cons (es_var rfl hthing) esa_nil)) es_int) fun _ => (es_and (es_c (esa_cons (es_op (od_ixT atI_1) (es_var rfl hthing) es_int) esa_nil) ⟨n, rfl, by omega, rfl⟩) fun _ => (es_c (esa_cons ((es_sl sd_tup (es_var rfl hthing) eso_int eso_no).eq (congrArg PyData.tuple (show cutD [wD wMean, wD n, a.data, b.data] (some 2) none = [a.data, b.data] from cut_from _ 2))) (esa_cons es_int esa_nil)) ⟨[a, b], 2, rfl, fun t ht => ?_, by simp, rfl⟩))).eq ?_) q
  · rw [o1]
    simp
  · simp at ht
    rcases ht with rfl | rfl
    · exact o2
    · exact o3
abbrev N_is_hold_row : List Str := ["thing"]
theorem sc_is_hold_row : FnScope N_is_hold_row N_is_hold_row (defScope s_is_hold_row) := ⟨rfl, rfl, rfl, by decide +kernel, rfl, by decide +kernel, by decide +kernel⟩
theorem a_is_hold_row (T : Tx w K mg) : C8.CalAt P w K mg base 223 (He.ga K "is_hold_row") (spD K (RRow isHold)) := by
  obtain ⟨fd, F⟩ := T.d_is_hold_row
  have c_is_name := c_is_name (P := P) (base := base) T
  have c_is_term := c_is_term (P := P) (base := base) T maxHt
  refine calAt_of F (F.ok sc_is_hold_row rrow_len (fun cdv A outer s H vs Q E hr h => ⟨_, PSs.nox (pss_one (ps_ret (pe_and (pe_cmpR op_eq (pe_callB (call_lenK (K := K)) rfl T.n_len PySem.boot_len (pa_cons (pv 0) pa_nil)) pe_int (nomark _)) (pe_and (pe_c c_is_name hr (by decide) rfl (pa_cons (pe_ix (ix_tupK (K := K)) (pv 0) pe_int (fun _ _ => rfl)) pa_nil)) (pe_one (pe_c c_is_term hr (by decide) rfl (pa_cons (pe_ix (ix_tupK (K := K)) (pv 0) pe_int (fun _ _ => rfl)) pa_nil))))))), ?_⟩))
    fun _ _ _ _ _ _ us hl => match us, hl with | [_], _ => rfl
  obtain ⟨ds, d, hvs, ⟨r, hp, rfl, ho, rfl⟩, q⟩ := h
  obtain ⟨v, rfl, hthing⟩ := hvs.one_inv
  cases r with
  | thing _ _ _ _ => cases hp
  | mean _ _ _ => cases hp
  | hold n t =>
  obtain ⟨o1, o2⟩ := ho
  have hn := isName_len o1
  unfold Row.data at hthing
  refine rd_ret (d := .bool true) ((es_and (es_op od_eqI (es_b cb_lenT (esa_cons (es_var rfl hthing) esa_nil)) es_int) fun _ => (es_and (es_c (esa_cons (es_op (od_ixT atI_1) (es_var rfl hthing) es_int) esa_nil) ⟨n, rfl, by omega, rfl⟩) fun _ => (es_c (esa_cons (es_op (od_ixT atI_2) (es_var rfl hthing) es_int) esa_nil) ⟨t, rfl, o2.1, o2.2, rfl⟩))).eq ?_) q
  rw [o1]
  simp
end
end K83
namespace K83
open PySem PySem.Spec PyProof.Rows L2
open C8 (Cal pe_c CalAt)
/-! ### a local name that holds one of three defs, called -/
def tCallV3 (i : Nat) (f1 f2 f3 : Addr) (sp1 sp2 sp3 : Sp) (t : TA) : TE := fun σ H Q => C8.tCallV i f1 f2 sp1 sp2 t σ H Q ∨ (σ[i]? = some (some (.ref f3)) ∧ t σ H fun vs H1 => sp3 vs H1 Q E0)
section
variable {X : Cx} {j : Nat} {x : Str} {p pos : Pos} {e : Expr} {es : List Expr} {t : TA}
theorem pe_cv3 {i k1 k2 k3 : Nat} {f1 f2 f3 : Addr} {sp1 sp2 sp3 : Sp} (c1 : CalAt X.prog X.w X.K X.mg X.base k1 f1 sp1) (c2 : CalAt X.prog X.w X.K X.mg X.base k2 f2 sp2) (c3 : CalAt X.prog X.w X.K X.mg X.base k3 f3 sp3) (hr : Room j X.A) (hk1 : k1 ≤ j) (hk2 : k2 ≤ j) (hk3 : k3 ≤ j) (hN : X.N[i]? = some x) (hv : Vis X.env.scope x) (ha : PA X (e :: es) t)
    (hd : (x == ("__debug__" : Str)) = false := by decide) (hcd : (x == ("__classdict__" : Str)) = false := by decide)
    (he : starEach (e :: es) X.env = (false, eval e X.env) :: starEach es X.env := by rfl) (hpl : (backTo pos (starEach es X.env)).any (·.1) = false := by rfl) :
    PE X (.Call (.Name x p) (e :: es) [] pos) (tCallV3 i f1 f2 f3 sp1 sp2 sp3 t) := by
  refine ⟨fun pins s σ H Q I h => ?_⟩
  rcases h with h | h
  · exact (C8.pe_cv c1 c2 hr hk1 hk2 hN hv ha hd hcd he hpl).run pins s σ H Q I h
  · exact (C8.pe_cv c3 c3 hr hk3 hk3 hN hv ha hd hcd he hpl).run pins s σ H Q I (.inl h)
end
section
variable {K : PySem.W.Frag} {w' : World} {σ : L2.St} {H H' : Hp} {t te : TE} {tr : TA} {d : PyData} {ds : List PyData} {a p : Addr} {v : V} {i k : Nat} {D : L2.Ends} {xs : List V}
theorem rd_cvA {f1 f2 f3 : Addr} {R1 : List PyData → PyData → Prop} {sp2 sp3 : Sp} (hs : σ[i]? = some (some (.ref f1))) (h : EsA K tr σ H ds) (hR : R1 ds d) (q : Af K H d D.rt) : tRet (tCallV3 i f1 f2 f3 (spD K R1) sp2 sp3 tr) D σ H :=
  .inl (.inl ⟨hs, h.at fun vs H2 e2 hv => ⟨ds, d, hv, hR, fun v H3 e3 h3 => q v H3 (e2.trans e3) h3⟩⟩)
theorem rd_cvB {f1 f2 f3 : Addr} {R2 : List PyData → PyData → Prop} {sp1 sp3 : Sp} (hs : σ[i]? = some (some (.ref f2))) (h : EsA K tr σ H ds) (hR : R2 ds d) (q : Af K H d D.rt) : tRet (tCallV3 i f1 f2 f3 sp1 (spD K R2) sp3 tr) D σ H :=
  .inl (.inr ⟨hs, h.at fun vs H2 e2 hv => ⟨ds, d, hv, hR, fun v H3 e3 h3 => q v H3 (e2.trans e3) h3⟩⟩)
theorem rd_cvC {f1 f2 f3 : Addr} {R3 : List PyData → PyData → Prop} {sp1 sp2 : Sp} (hs : σ[i]? = some (some (.ref f3))) (h : EsA K tr σ H ds) (hR : R3 ds d) (q : Af K H d D.rt) : tRet (tCallV3 i f1 f2 f3 sp1 sp2 (spD K R3) tr) D σ H :=
  .inr ⟨hs, h.at fun vs H2 e2 hv => ⟨ds, d, hv, hR, fun v H3 e3 h3 => q v H3 (e2.trans e3) h3⟩⟩
/-- for x in a list that stays as it is -/
theorem rd_forL {tb : TS} (hs : σ[i]? = some (some (.ref a))) (hL : H a = some (.lst xs)) (Pv : Nat → L2.St → Hp → Prop) (h0 : Pv 0 σ H) (keep : ∀ j σ H, j ≤ xs.length → Pv j σ H → H a = some (.lst xs))
    (step : ∀ j x σ' H', xs[j]? = some x → Pv j σ' H' → tb { D with nx := Pv (j + 1), ct := Pv (j + 1), bk := D.nx } (σ'.set k (some x)) H') (hd : ∀ σ H, Pv xs.length σ H → D.nx σ H) : tFor (iList K (tVar i)) (gName k) tb D σ H := by
  have w : Walk (Itl K a) xs.length (fun H => SqL K H a xs) (YAt xs) := walk_list
  refine ⟨_, hs, _, rfl, ⟨_, SqL.of hL⟩, for_it w Pv h0 (fun j _ _ hj p => SqL.of (keep j _ _ hj p)) (fun j x σ' H3 H4 hj p y => ?_) hd⟩
  obtain ⟨rfl, y⟩ := y
  exact step j x σ' _ y p
/-! what stands when a thing that is no list changes -/
mutual
theorem Dt.mo {u : HO} (hp : H p = some u) (nl : ∀ xs, u ≠ .lst xs) (nt : notTup u = true) (e : Mo p H H') : ∀ {v : V} {d : PyData}, Dt K H v d → Dt K H' v d
  | _, _, .non => .non
  | _, _, .bl b => .bl b
  | _, _, .int i => .int i
  | _, _, .str x => .str x
  | _, _, .lst h r => .lst (e _ _ (fun z => by rw [z, hp] at h; exact nl _ (Option.some.inj h)) h) (r.mo hp nl nt e)
  | _, _, .tup h r => .tup (e.tkO hp nt _ _ h) (r.mo hp nl nt e)
theorem DtA.mo {u : HO} (hp : H p = some u) (nl : ∀ xs, u ≠ .lst xs) (nt : notTup u = true) (e : Mo p H H') : ∀ {vs : List V} {ds : List PyData}, DtA K H vs ds → DtA K H' vs ds
  | _, _, .nil => .nil
  | _, _, .cons h r => .cons (h.mo hp nl nt e) (r.mo hp nl nt e)
end
/-- isinstance(v, (c, c')) -/
def rIs2 (K : PySem.W.Frag) (c c' : String) : List V → Hp → VK → Prop := fun vs H Q => ∃ (v : V) (t : Value) (tp : Addr) (b b' : Bool), vs = [v, .ref tp] ∧ H tp = some (.tup [.ty c, .ty c']) ∧ TyX K H v t ∧ PySem.W.kitOne K t (.type c) = some b ∧ PySem.W.kitOne K t (.type c') = some b' ∧ Q (.bl (b || b')) H
theorem call_is2K {X : Cx} {K : PySem.W.Frag} {c c' : String} (hK : X.K = K := by rfl) : CallR X (.builtin "isinstance") (rIs2 K c c') := by
  subst hK
  intro pins s σ H vs us Q I r h
  obtain ⟨v, t, tp, b, b', rfl, ht, ty, h1, h2, q⟩ := h
  refine call_isiT pins s σ H _ us Q I r ⟨v, tp, [.ty c, .ty c'], t, [.type c, .type c'], b || b', rfl, ht, .cons (.ty c) (.cons (.ty c') .nil), ty, ?_, q⟩
  refine kitAny_cons h1 (fun e => ?_) (fun e => by rw [e]; rfl)
  refine kitAny_cons h2 (fun e' => ?_) (fun e' => by rw [e']; simp)
  rw [e, e', kitAny_nil]
  rfl
end
section
variable {P : Program} {w : World} {K : PySem.W.Frag} {mg : Str → Option Value} {base : Heap}
abbrev N_is_row : List Str := ["thing", "look"]
abbrev P_is_row : List Str := ["thing"]
theorem sc_is_row : FnScope N_is_row P_is_row (defScope s_is_row) := ⟨rfl, rfl, rfl, by decide +kernel, rfl, by decide +kernel, by decide +kernel⟩
def headW : Row → Wd
  | .thing _ _ _ _ => wThing
  | .mean _ _ _ => wMean
  | .hold _ _ => wHold
theorem row_data (r : Row) : ∃ d ds, r.data = .tuple (wD (headW r) :: d :: ds) ∧ d = wD r.name ∧ ds ≠ [] := by
  cases r with
  | thing => exact ⟨_, _, rfl, rfl, by simp⟩
  | mean => exact ⟨_, _, rfl, rfl, by simp⟩
  | hold => exact ⟨_, _, rfl, rfl, by simp⟩
theorem c_is_row (T : Tx w K mg) : Cal P w K mg base 224 "is_row" (spD K (RRow fun _ => True)) [] := by
  obtain ⟨fd, F⟩ := T.d_is_row
  have X := fx_of T
  refine cal_of F (F.ok sc_is_row rrow_len (fun cdv A outer s H vs Q E hr h => ⟨_, PSs.nox (pss_cons (ps_if (PW.pt (pw_or (pt_not (pt_val (xIs (K := K) T.n_isinstance T.n_tuple b_tuple (pv 0)))) (pw_or (pt_cmpR op_eq (pe_callB (call_lenK (K := K)) rfl T.n_len PySem.boot_len (pa_cons (pv 0) pa_nil)) pe_int (nomark _)) (pw_or (pt_not (pt_val (xIs (K := K) T.n_isinstance T.n_str b_str (pe_ix (ix_tupK (K := K)) (pv 0) pe_int (fun _ _ => rfl))))) (pw_or1 (pt_cmpR (op_notInD (K := K) T.t_ROWS) (pe_ix (ix_tupK (K := K)) (pv 0) pe_int (fun _ _ => rfl)) (gR T.g_ROWS) (by rfl))))))) (pss_one (ps_ret pe_bl)) pss_nil)
    (pss_cons (ps_set (i := 1) sc_is_row.nd rfl (Or.inl rfl) (pe_ix (ix_dictK (K := K) (w' := w)) (gR T.g_ROWS) (pe_ix (ix_tupK (K := K)) (pv 0) pe_int (fun _ _ => rfl)) (fun _ _ => rfl)))
    (pss_one (ps_ret (pe_cv3 (i := 1) (a_is_thing_row T) (a_is_mean_row T) (a_is_hold_row T) hr (by decide) (by decide) (by decide) rfl (.inl rfl) (pa_cons (pv 0) pa_nil)))))), ?_⟩)) T.g_is_row
    fun _ _ _ _ _ _ us hl => match us, hl with | [_], _ => rfl
  obtain ⟨ds, d, hvs, ⟨r, _, rfl, ho, rfl⟩, q⟩ := h
  obtain ⟨v, rfl, hthing⟩ := hvs.one_inv
  obtain ⟨dn, rs, hd, -, hne⟩ := row_data r
  obtain ⟨f, hf, hz⟩ : ∃ f, (S (headW r), He.Dv.glo f) ∈ kv_ROWS ∧ ((∃ n h b m, r = .thing n h b m ∧ f = "is_thing_row") ∨ (∃ n a b, r = .mean n a b ∧ f = "is_mean_row") ∨ ∃ n t, r = .hold n t ∧ f = "is_hold_row") := by
    cases r with
    | thing n h b m => exact ⟨"is_thing_row", by show (S wThing, _) ∈ _; rw [show S wThing = ("thing" : Str) by decide +kernel]; simp [kv_ROWS], .inl ⟨n, h, b, m, rfl, rfl⟩⟩
    | mean n a b => exact ⟨"is_mean_row", by show (S wMean, _) ∈ _; rw [show S wMean = ("mean" : Str) by decide +kernel]; simp [kv_ROWS], .inr (.inl ⟨n, a, b, rfl, rfl⟩)⟩
    | hold n t => exact ⟨"is_hold_row", by show (S wHold, _) ∈ _; rw [show S wHold = ("hold" : Str) by decide +kernel]; simp [kv_ROWS], .inr (.inr ⟨n, t, rfl, rfl⟩)⟩
  obtain ⟨kd, u, hu⟩ := tab_get T.t_ROWS X.rows hf
  have hth := hthing
  rw [hd] at hth
  have h0 : ∀ {H'}, Same H H' → Es K (tOp (rIxT K) (tVar 0) (tC (.int 0))) [some v, none] H' (wD (headW r)) := fun {H'} e => es_op (od_ixT atI_0) (es_var rfl (hth.same e)) es_int
  refine rd_if (est_or (est_not (est_val (es_is (es_var rfl hth)))) fun _ => (est_or (est_op (es_op od_eqI (es_b cb_lenT (esa_cons (es_var rfl hth) esa_nil)) es_int)) fun _ => (est_or (est_not (est_val (es_is (h0 (Same.refl H))))) fun _ => (est_op (es_notInD (h0 (Same.refl H)) hu))))) (fun H2 e2 hb => ?_) (fun H2 e2 hb => ?_)
  · simp [tyD, isB, wD] at hb
    omega
  refine rd_setD (h0 e2) kd fun H3 e3 => ?_
  have e23 := e2.trans e3
  have hq : Af K H3 (PyData.bool r.good) Q := fun v H4 e4 hv => q v H4 (e23.trans e4) hv
  rcases hz with ⟨n, h, b, m, rfl, rfl⟩ | ⟨n, a, b, rfl, rfl⟩ | ⟨n, t, rfl, rfl⟩
  · exact rd_cvA (R1 := RRow isThing) rfl (esa_cons (es_var rfl (hthing.same e23)) esa_nil) ⟨.thing n h b m, True.intro, rfl, ho, rfl⟩ hq
  · exact rd_cvB (R2 := RRow isMean) rfl (esa_cons (es_var rfl (hthing.same e23)) esa_nil) ⟨.mean n a b, True.intro, rfl, ho, rfl⟩ hq
  · exact rd_cvC (R3 := RRow isHold) rfl (esa_cons (es_var rfl (hthing.same e23)) esa_nil) ⟨.hold n t, True.intro, rfl, ho, rfl⟩ hq
end
end K83
namespace K83
open PySem PySem.Spec PyProof.Rows L2
open C8 (Cal pe_c CalAt)
theorem un1 {n : Nat} (h : n + 64 < cLine) : n + 1 < cLine := Nat.lt_of_le_of_lt (by omega) h
/-- isinstance(t, (c, c')) -/
theorem es_is2 {K : PySem.W.Frag} {σ : L2.St} {H : Hp} {t : TE} {d : PyData} {c c' : String} (h : Es K t σ H d) (hc : c ∈ clNames := by decide) (hc' : c' ∈ clNames := by decide) :
    Es K (tCB (rIs2 K c c') (tCons t (tCons (tTup (tCons (tC (.ty c)) (tCons (tC (.ty c')) tNil))) tNil))) σ H (.bool (isB (tyD d) c || isB (tyD d) c')) := fun H1 e1 Q q => h H1 e1 _ fun x H2 e2 hx =>
  ⟨by show 2 ≤ sizeLine; decide, fun tp htp => ⟨x, _, tp, _, _, rfl, upd_same, tyx_dt (hx.same (same_new htp _)), kit_d K d hc, kit_d K d hc', q _ _ (e2.trans (same_new htp _)) (.bl _)⟩⟩
/-! ### need_rows -/
inductive Chk where
  | fine
  | ground
  | row (r : Row)
  | doubled (n : Wd)
def chkL (seen : List Wd) : List Row → Chk
  | [] => .fine
  | r :: rs => if r.good = true then (if r.name ∈ seen then .doubled r.name else chkL (r.name :: seen) rs) else .row r
def chk (rows : List Row) : Chk := if 24 < rows.length then .ground else chkL [] rows
def rowsD (rows : List Row) : List PyData := rows.map Row.data
/-- what is raised -/
def RaiseC (K : PySem.W.Frag) (H : Hp) (v : V) (E : XK) : Chk → Prop
  | .fine => True
  | .ground => ∀ H2, Same H H2 → BadX K H2 "NoGround" "found" v E
  | .row r => ∀ H2 v', Same H H2 → Dt K H2 v' r.data → BadX K H2 "NoRow" "found" v' E
  | .doubled n => ∀ H2, Same H H2 → BadX K H2 "Doubled" "found" (wV n) E
theorem RaiseC.same {K : PySem.W.Frag} {H H' : Hp} {v : V} {E : XK} {c : Chk} (h : RaiseC K H v E c) (e : Same H H') : RaiseC K H' v E c := by
  cases c with
  | fine => trivial
  | ground => exact fun H2 e2 => h H2 (e.trans e2)
  | row r => exact fun H2 v' e2 => h H2 v' (e.trans e2)
  | doubled n => exact fun H2 e2 => h H2 (e.trans e2)
section
variable {P : Program} {w : World} {K : PySem.W.Frag} {mg : Str → Option Value} {base : Heap}
def spNeed (K : PySem.W.Frag) : Sp := fun vs H Q E => ∃ (a : Addr) (rows : List Row), vs = [.ref a] ∧ Dt K H (.ref a) (.list (rowsD rows)) ∧ (∀ r ∈ rows, r.ok maxHt) ∧ rows.length ≤ 1000 ∧ (chk rows = .fine → ∀ H2, Same H H2 → Q .non H2) ∧ RaiseC K H (.ref a) E (chk rows)
abbrev N_need_rows : List Str := ["rows", "seen", "row"]
abbrev P_need_rows : List Str := ["rows"]
theorem sc_need_rows : FnScope N_need_rows P_need_rows (defScope s_need_rows) := ⟨rfl, rfl, rfl, by decide +kernel, rfl, by decide +kernel, by decide +kernel⟩
theorem rowsD_get {rows : List Row} {j : Nat} {d : PyData} (h : (rowsD rows)[j]? = some d) : ∃ r, rows[j]? = some r ∧ d = r.data := by
  unfold rowsD at h
  rw [List.getElem?_map] at h
  cases q : rows[j]? with
  | none => rw [q] at h; cases h
  | some r => rw [q] at h; exact ⟨r, rfl, (Option.some.inj h).symm⟩
theorem row_1 (r : Row) : ∃ ds, r.data = .tuple ds ∧ atI ds 1 = some (wD r.name) := by
  cases r with
  | thing => exact ⟨_, rfl, atI_1⟩
  | mean => exact ⟨_, rfl, atI_1⟩
  | hold => exact ⟨_, rfl, atI_1⟩
theorem c_need_rows (T : Tx w K mg) : CalR P w K mg base 225 "need_rows" (spNeed K) := by
  obtain ⟨fd, F⟩ := T.d_need_rows
  have X := fx_of T
  have c_is_row := c_is_row (P := P) (base := base) T
  obtain ⟨tMOST_ROWS, hMOST_ROWS⟩ := T.i_MOST_ROWS
  refine calR_of F (F.ok sc_need_rows (fun vs H Q E h => by obtain ⟨_, _, rfl, _⟩ := h; rfl) (fun cdv A outer s H vs Q E hr h => ⟨_, (pss_cons (ps_if (PW.pt (pw_or (pt_not (pt_val (pe_callB (call_is2K (K := K) (c := "list") (c' := "tuple")) rfl T.n_isinstance b_isinstance (pa_cons (pv 0) (pa_cons (pe_tup (pa_cons (pe_bltn (v := .ty "list") rfl T.n_list b_list rfl (by decide) (by decide)) (pa_cons (pe_bltn (v := .ty "tuple") rfl T.n_tuple b_tuple rfl (by decide) (by decide)) pa_nil))) pa_nil))))) (pw_or1 (pt_cmpR op_gt (pe_callB (call_lenK (K := K)) rfl T.n_len PySem.boot_len (pa_cons (pv 0) pa_nil)) (gI hMOST_ROWS) (nomark _))))) (pss_one (ps_bad rfl (takes_of rfl rfl rfl rfl) (ini_G T) X.eG hr (by decide) rfl T.g_NoGround (pv 0))) pss_nil)
    (pss_cons (ps_set (i := 1) sc_need_rows.nd rfl (Or.inl rfl) pe_dnewK)
    (pss_one (ps_for (passes_of rfl) rfl (pi_list (pv 0)) (pg_name (i := 2) sc_need_rows.nd rfl (Or.inl rfl))
      (pss_cons (ps_if (pt_not (pt_val (pe_c c_is_row hr (by decide) rfl (pa_cons (pv 2) pa_nil)))) (pss_one (ps_bad rfl (takes_of rfl rfl rfl rfl) (ini_R T) X.eR hr (by decide) rfl T.g_NoRow (pv 2))) pss_nil)
    (pss_cons (ps_if (pt_cmp (pc_din (un1 hr.units) (pe_ix (ix_tupK (K := K)) (pv 2) pe_int (fun _ _ => rfl)) (pv 1))) (pss_one (ps_bad rfl (takes_of rfl rfl rfl rfl) (ini_D T) X.eD hr (by decide) rfl T.g_Doubled (pe_ix (ix_tupK (K := K)) (pv 2) pe_int (fun _ _ => rfl)))) pss_nil)
    (pss_one (ps_asg pe_bl (pg_sub (pv 1) (pe_ix (ix_tupK (K := K)) (pv 2) pe_int (fun _ _ => rfl)) (set_dict (un1 hr.units))))))))))), ?_⟩)) T.g_need_rows
    fun _ _ _ _ _ _ us hl => match us, hl with | [_], _ => rfl
  obtain ⟨a, rows, rfl, hv, ho, hl, q, r⟩ := h
  obtain ⟨xs, hL, hA⟩ : ∃ xs, H a = some (.lst xs) ∧ DtA K H xs (rowsD rows) := by cases hv with | lst h r => exact ⟨_, h, r⟩
  have hlen : xs.length = rows.length := by rw [hA.len]; simp [rowsD]
  have hc : ¬ rows.length > 24 → chk rows = chkL [] rows := fun h => if_neg h
  refine rd_if (est_or (est_not (est_val (es_is2 (es_var rfl hv)))) fun _ => (est_op (es_op od_cmp (es_b cb_lenL (esa_cons (es_var rfl hv) esa_nil)) es_int))) (fun H2 e2 hb => ?_) (fun H2 e2 hb => ?_)
  · simp [tyD, isB, rowsD] at hb
    have e : chk rows = .ground := if_pos (by omega)
    rw [e] at r
    exact ⟨_, rfl, r H2 e2⟩
  simp [tyD, isB, rowsD] at hb
  have e := hc (by omega)
  rw [e] at q r
  refine fun p hp => ?_
  refine rd_forL (k := 2) (K := K) (xs := xs) (a := a) rfl ((e2.trans (same_new hp _)) _ _ hL) (fun j σ H' => (∃ z, σ = [some (.ref a), some (.ref p), z]) ∧ Same H H' ∧ ∃ kvs seen, H' p = some (.dK kvs) ∧ kvs.length ≤ j ∧ (∀ n : Wd, (valV kvs (.inr (S n))).isSome = decide (n ∈ seen)) ∧ chkL [] rows = chkL seen (rows.drop j))
    ⟨⟨_, rfl⟩, e2.trans (same_new hp _), [], [], upd_same, Nat.le_refl _, fun n => rfl, rfl⟩ (fun j σ H' _ p => p.2.1 _ _ hL) (fun j x σ' H' hx g => ?_) (fun σ' H' g => ?_)
  · obtain ⟨⟨z, rfl⟩, g1, kvs, seen, g2, g3, g4, g5⟩ := g
    obtain ⟨d, hd, hxd⟩ := hA.get hx
    obtain ⟨r0, hr0, rfl⟩ := rowsD_get hd
    have hj : j < rows.length := (List.getElem?_eq_some_iff.mp hr0).1
    have hxd := hxd.same g1
    have edrop : rows.drop j = r0 :: rows.drop (j + 1) := by
      rw [List.drop_eq_getElem_cons hj, (List.getElem?_eq_some_iff.mp hr0).2]
    rw [edrop] at g5
    have hm : r0 ∈ rows := List.mem_of_getElem? hr0
    have hpn : H p = none := e2.free hp
    refine rd_if (est_not (est_val (es_c (esa_cons (es_var (i := 2) rfl hxd) esa_nil) ⟨r0, trivial, rfl, ho r0 hm, rfl⟩))) (fun H3 e3 hb => ?_) (fun H3 e3 hb => ?_)
    · have hb : ¬ r0.good = true := by simpa using hb
      have e5 : chkL seen (r0 :: rows.drop (j + 1)) = .row r0 := if_neg hb
      rw [g5, e5] at r
      exact ⟨_, rfl, r H3 x (g1.trans e3) (hxd.same e3)⟩
    have hb : r0.good = true := by simpa using hb
    obtain ⟨rds, hrd, h1⟩ := row_1 r0
    have hxd3 := hxd.same e3
    rw [hrd] at hxd3
    have row1 : ∀ H4, Same H3 H4 → Es K (tOp (rIxT K) (tVar 2) (tC (.int 1))) [some (.ref a), some (.ref p), some x] H4 (wD r0.name) := fun H4 e4 => es_op (od_ixT h1) (es_var rfl (hxd3.same e4)) es_int
    have e5 : chkL seen (r0 :: rows.drop (j + 1)) = if r0.name ∈ seen then .doubled r0.name else chkL (r0.name :: seen) (rows.drop (j + 1)) := if_pos hb
    have hdin : EsT (tB (tDIn (tOp (rIxT K) (tVar 2) (tC (.int 1))) (tVar 1))) [some (.ref a), some (.ref p), some x] H3 (decide (r0.name ∈ seen)) := fun H4 e4 Q4 q4 => row1 H4 e4 H4 (Same.refl _) _ fun u H5 e6 hu => by
      cases hu
      have hp5 : H5 p = some (.dK kvs) := e6 _ _ (e4 _ _ (e3 _ _ g2))
      exact ⟨_, rfl, p, _, rfl, DGet.k (k := .inr (S r0.name)) hp5, _, by rw [g4], q4 H5 e6⟩
    refine rd_if hdin (fun H4 e4 hb2 => ?_) (fun H4 e4 hb2 => ?_)
    · rw [g5, e5, if_pos (by simpa using hb2)] at r
      exact rd_bad (row1 H4 e4) fun v H5 e6 hv5 => by
        cases hv5
        exact r H5 (((g1.trans e3).trans e4).trans e6)
    · refine ⟨_, rfl, (row1 H4 e4).at fun u H5 e6 hu => ?_⟩
      cases hu
      have hp5 : H5 p = some (.dK kvs) := e6 _ _ (e4 _ _ (e3 _ _ g2))
      have g15 := ((g1.trans e3).trans e4).trans e6
      refine ⟨p, _, rfl, DPut.k (k := .inr (S r0.name)) hp5 (len_lt (by omega)), ⟨_, rfl⟩, same_own g15 hpn _, _, r0.name :: seen, upd_same, Nat.le_trans (length_putK _ _ _) (by omega), fun n => ?_, ?_⟩
      · rw [valV_put]
        by_cases z : n = r0.name
        · rw [if_pos (by rw [z])]; simp [z]
        · rw [if_neg (fun y => z (SX.S_inj (Sum.inr.inj y))), g4]; simp [z]
      · rw [g5, e5, if_neg (by simpa using hb2)]
  · obtain ⟨⟨z, rfl⟩, g1, kvs, seen, g2, g3, g4, g5⟩ := g
    rw [List.drop_of_length_le (by omega)] at g5
    exact q g5 H' g1
end
end K83
namespace K83
open PySem PySem.Spec PyProof.Rows L2
open C8 (Cal pe_c CalAt)
/-! ### methods and makers that may raise -/
def tMethX (C : Addr) (m : Str) (sp : Sp) (E : L2.St → XK) (ta : TE) (t : TA) : TE := fun σ H Q => ta σ H fun x H1 => ∃ a dx fs, x = .ref a ∧ H1 a = some (.ins C dx fs) ∧ fs.lookup m = none ∧ t σ H1 fun vs H2 => sp (x :: vs) H2 Q (E σ)
def tMakeX (C : Addr) (sp : Sp) (dvs : List V) (E : L2.St → XK) (t : TA) : TE := fun σ H Q => t σ H fun vs H1 => ∀ x dx, H1 x = none → H1 dx = none → dx ≠ x →
  sp (.ref x :: (vs ++ dvs)) (upd (upd H1 dx (.own x)) x (.ins C dx [])) (fun v H2 => v = .non ∧ Q (.ref x) H2) (E σ)
structure MetR (P : Program) (w : World) (K : PySem.W.Frag) (mg : Str → Option Value) (base : Heap) (k : Nat) (C : Addr) (m : Str) (sp : Sp) : Prop where
  ex : ∃ (f : Addr) (fd : FuncData) (ps : List Str), Cls K C ∧ Meth K C m f ∧ FnOk P w K mg base (L2.CX P w) k f fd ps sp ∧ Binds K fd ps []
structure MakR (P : Program) (w : World) (K : PySem.W.Frag) (mg : Str → Option Value) (base : Heap) (k : Nat) (x : Str) (C : Addr) (sp : Sp) (dvs : List V) : Prop where
  ex : ∃ (f : Addr) (fd : FuncData) (ps : List Str) (ds : List Value), Mk K C f ∧ FnOk P w K mg base (L2.CX P w) k f fd ps sp ∧ mg x = some (.ref C) ∧ Binds K fd ps ds ∧ Vals dvs ds
section
variable {X : Cx} {CX : CXT} {k j : Nat} {f C : Addr} {fd : FuncData} {ps : List Str} {sp : Sp} {dvs : List V} {ds : List Value} {E : L2.St → XK} {x m : Str} {p pos apos : Pos} {e o : Expr} {es : List Expr} {ta : TE} {t : TA} {W : WX}
theorem run_makeS {pins : List (Addr × Obj)} {σ : L2.St} {H : Hp} {s : Shared} {Q : VK} {us : List Value} {vs : List V} (M : Mk X.K C f) (F : FnOk X.prog X.w X.K X.mg X.base CX k f fd ps sp) (hr : Room (k + 1) X.A) (hb : Binds X.K fd ps ds) (hd : Vals dvs ds)
    (hx : PassesAt CX X σ (E σ)) (I : Inv X pins σ H s) (r : Vals vs us)
    (h : ∀ x dx, H x = none → H dx = none → dx ≠ x → sp (.ref x :: (vs ++ dvs)) (upd (upd H dx (.own x)) x (.ins C dx [])) (fun v H2 => v = .non ∧ Q (.ref x) H2) (E σ)) :
    wpAny (model X.prog X.w) X.A (call (.ref C) us) (EP X pins σ Q) X.xe s := by
  have hq := h (s.heap.objs.size + 1) s.heap.objs.size (I.hok.fresh (Nat.le_succ _)) (I.hok.fresh (Nat.le_refl _)) (Nat.ne_of_lt (Nat.lt_succ_self _))
  have I2 := Inv.made (C := C) I
  have r2 : Vals (V.ref (s.heap.objs.size + 1) :: (vs ++ dvs)) (Value.ref (s.heap.objs.size + 1) :: (us ++ ds)) := .cons rfl (r.append hd)
  have hl : (Value.ref (s.heap.objs.size + 1) :: us ++ ds).length = ps.length := by
    have e := r2.length
    rw [F.len _ _ _ _ hq] at e
    exact e.symm
  refine wpAny_call (make_map (f := f) I.kIn M.makes M.init (beq_iff_eq.mp M.fn) (codeAny_mono (F.run _ X.stack _ _ ⟨Value.ref (s.heap.objs.size + 1) :: us, []⟩ (Value.ref (s.heap.objs.size + 1) :: (us ++ ds)) _ _ (E σ) (hr.make C us [])
    (I2.env0.make C us []) (hb _ (Value.ref (s.heap.objs.size + 1) :: us) I2.kIn hl) r2 hq) fun r s' hq' => ?_))
  cases r with
  | error e => exact hx pins _ _ e s' I2 hq'
  | ok fl =>
    cases fl with
    | ret u =>
      obtain ⟨v, H', I3, rv, ev, q3⟩ := I2.after hq'
      subst ev
      exact ⟨rv, ⟨V.ref (s.heap.objs.size + 1), H', I3, rfl, q3⟩⟩
    | next => exact False.elim hq'
    | brk => exact False.elim hq'
    | cont => exact False.elim hq'
/-- C(e, ..) -/
theorem pe_mkr (c : MakR X.prog X.w X.K X.mg X.base k x C sp dvs) (hr : Room j X.A) (hk : k + 1 ≤ j) (hg : Gl X x) (tk : Takes X W) (ha : PA X (e :: es) t)
    (hdb : (x == ("__debug__" : Str)) = false := by decide) (he : starEach (e :: es) X.env = (false, eval e X.env) :: starEach es X.env := by rfl) (hpl : (backTo pos (starEach es X.env)).any (·.1) = false := by rfl) :
    PE X (.Call (.Name x p) (e :: es) [] pos) (tMakeX C sp dvs (WE W) t) := by
  obtain ⟨f, fd, ps, ds, M, F, hm, b, d⟩ := c.ex
  refine ⟨fun pins s σ H Q I h => ?_⟩
  refine wpAny_Call_Name_kw (ld_glob I hg hm ?_ hdb)
  refine PySem.W.callWith_K (h₀ := X.base) I.ok.mod.kin M.kp (thn (ha.run pos pins s σ H _ I h) fun us s1 ⟨vs, H1, I1, r, q⟩ => ⟨I1.kIn, ?_⟩) he hpl
  exact run_makeS M F (hr.mono hk) b d (passAt tk σ) I1 r q
/-- C() -/
theorem pe_mkr0 (c : MakR X.prog X.w X.K X.mg X.base k x C sp dvs) (hr : Room j X.A) (hk : k + 1 ≤ j) (hg : Gl X x) (tk : Takes X W) (hdb : (x == ("__debug__" : Str)) = false := by decide) : PE X (.Call (.Name x p) [] [] pos) (tMakeX C sp dvs (WE W) tNil) := by
  obtain ⟨f, fd, ps, ds, M, F, hm, b, d⟩ := c.ex
  refine ⟨fun pins s σ H Q I h => ?_⟩
  refine wpAny_Call_Name_kw (ld_glob I hg hm ?_ hdb)
  exact PySem.W.callWith_K0 I.kIn M.kp (run_makeS (us := []) M F (hr.mono hk) b d (passAt tk σ) I .nil h)
/-- o.m(e, ..) -/
theorem pe_mtr {pl : Sem Bool} (c : MetR X.prog X.w X.K X.mg X.base k C m sp) (hr : Room j X.A) (hk : k ≤ j) (tk : Takes X W) (he : PE X o ta) (ha : PA X (e :: es) t)
    (hst : starEach (e :: es) X.env = (false, eval e X.env) :: starEach es X.env := by rfl) (hpl : (backTo pos (starEach es X.env)).any (·.1) = false := by rfl)
    (ht : eval (.Call (.Attribute o m apos) (e :: es) [] pos) X.env = (do
      let ov ← eval o X.env
      standAt apos.atName
      let (f, first) ← holding [ov] (getMethod ov m pl)
      callWith pos f first (backTo pos (starEach (e :: es) X.env)) (backToKw pos (keywordEach [] X.env))) := by rfl) :
    PE X (.Call (.Attribute o m apos) (e :: es) [] pos) (tMethX C m sp (WE W) ta t) := by
  obtain ⟨f, fd, ps, hc, hm, F, b⟩ := c.ex
  refine ⟨fun pins s σ H Q I h => ?_⟩
  refine PySem.W.methodCall_KW (pl := pl) (thn (he.run pins s σ H _ I h) fun u s1 ⟨x, H1, I1, rx, a, dx, fs, ex, ea, l, q⟩ => ?_) ht
  subst ex
  obtain rfl : u = Value.ref a := rx
  refine getmeth_ok I1 ea hc hm l ?_
  refine PySem.W.callWith_K (first := [.ref a]) (h₀ := X.base) I.ok.mod.kin hm.kp (thn (ha.run pos pins s1 σ H1 _ I1 q) fun us s2 ⟨vs, H2, I2, r, q2⟩ => ⟨I2.kIn, ?_⟩) hst hpl
  exact run_fnS (us := .ref a :: us) (vs := .ref a :: vs) F (hr.mono hk) b (passAt tk σ) I2 (.cons rfl r) q2
end
section
variable {P : Program} {w : World} {K : PySem.W.Frag} {mg : Str → Option Value} {base : Heap}
theorem flat_row : ∀ r : Row, flatT r.data = true
  | .thing n h bs ms => by
    have : ∀ ms : List (List T), flatTs (ms.map tsD) = true := by
      intro ms
      induction ms with
      | nil => rfl
      | cons l r ih => simp only [List.map_cons, flatTs, ih, Bool.and_true]; exact flat_terms l
    have h2 : flatT (tsD bs) = true := flat_terms bs
    simp only [Row.data, flatT, flatTs, flat_w, this, h2]
    rfl
  | .mean n a b => by simp [Row.data, flatT, flatTs, flat_w, flat_term]
  | .hold n t => by simp [Row.data, flatT, flatTs, flat_w, flat_term]
theorem flat_rows : ∀ rows : List Row, flatTs (rowsD rows) = true
  | [] => rfl
  | r :: rs => by
    have := flat_rows rs
    simp only [rowsD, List.map_cons, flatTs, flat_row r, Bool.true_and] at this ⊢
    exact this
/-- pairs of a name and a row -/
theorem pairs_of {H : Hp} : ∀ {xs : List V} {rows : List Row}, DtA K H xs (rows.map fun r => .tuple [wD r.name, r.data]) → ∃ (ps : List Addr) (kvs : List (Key × V)), xs = ps.map V.ref ∧ Paired (fun p kv => SqT K H p [kV kv.1, kv.2]) ps kvs
  | _, [], h => by cases h; exact ⟨[], [], rfl, .nil⟩
  | _, r :: rs, h => by
    cases h with
    | cons h1 h2 =>
      obtain ⟨ps, kvs, e, hp⟩ := pairs_of h2
      subst e
      cases h1 with
      | @tup a xs _ hs hr =>
        cases hr with
        | cons n1 hr =>
          cases n1
          obtain ⟨v, rfl, hv⟩ := hr.one_inv
          exact ⟨a :: ps, (.inr (S r.name), v) :: kvs, rfl, .cons hs hp⟩
theorem Dt.ins {K : PySem.W.Frag} {H : Hp} {x C dx : Addr} {fs fs' : List (Str × V)} {v : V} {d : PyData} (h : Dt K H v d) (hx : H x = some (.ins C dx fs)) : Dt K (upd H x (.ins C dx fs')) v d := h.mo hx (fun _ z => by cases z) rfl Mo.upd
theorem at_cb1 {r : List V → Hp → VK → Prop} {te : TE} {σ : L2.St} {H : Hp} {Q : VK} (h : te σ H fun v H1 => r [v] H1 Q) : tCB r (tCons te tNil) σ H Q := h
theorem at_fld {K : PySem.W.Frag} {ta tv : TE} {f : Str} {D : L2.Ends} {σ : L2.St} {H : Hp} (h : tv σ H fun y H1 => ta σ H1 fun x H2 => ∃ a C dx fs, x = .ref a ∧ H2 a = some (.ins C dx fs) ∧ Cls K C ∧ NoAttr K C f ∧ fs.length < 1000 ∧ D.nx σ (upd H2 a (.ins C dx (putF f y fs)))) : sFld K ta tv f D σ H := h
/-! ### grounds -/
/-- at a stands a ground of these rows -/
def IsG (K : PySem.W.Frag) (H : Hp) (a : Addr) (ds : List PyData) : Prop := ∃ dx l kb, H a = some (.ins (He.ga K "Ground") dx [("kept_rows", .ref l), ("kept_by", kb)]) ∧ Dt K H (.ref l) (.list ds)
theorem IsG.same {H H' : Hp} {a : Addr} {ds : List PyData} (h : IsG K H a ds) (e : Same H H') : IsG K H' a ds := by
  obtain ⟨dx, l, kb, h1, h2⟩ := h
  exact ⟨dx, l, kb, e _ _ h1, h2.same e⟩
def spGround (K : PySem.W.Frag) : Sp := fun vs H Q E => ∃ (x dx : Addr) (o : V) (rows : List Row) (H0 : Hp), vs = [.ref x, o] ∧ H x = some (.ins (He.ga K "Ground") dx []) ∧ H0 x = none ∧ Same H0 H ∧ ((o = .non ∧ rows = []) ∨ (∃ a, o = .ref a ∧ Dt K H0 (.ref a) (.list (rowsD rows)))) ∧ (∀ r ∈ rows, r.ok maxHt) ∧ rows.length ≤ 1000 ∧
  (chk rows = .fine → ∀ H2, Same H0 H2 → IsG K H2 x (rowsD rows) → Q .non H2) ∧ RaiseC K H0 o E (chk rows)
abbrev N_Ground_init : List Str := ["self", "rows", "some", "row"]
abbrev P_Ground_init : List Str := ["self", "rows"]
theorem sc_Ground_init : FnScope N_Ground_init P_Ground_init (defScope m_Ground_init) := ⟨rfl, rfl, rfl, by decide +kernel, rfl, by decide +kernel, by decide +kernel⟩
theorem fn_Ground (T : Tx w K mg) : ∃ fd, FnOk P w K mg base (L2.CX P w) 226 (He.ma K (He.ga K "Ground") "__init__") fd P_Ground_init (spGround K) ∧ FunD K "__init__" "Ground.__init__" (defArgs m_Ground_init) (defBody m_Ground_init) (defScope m_Ground_init) [.non] [] (He.ma K (He.ga K "Ground") "__init__") fd := by
  obtain ⟨fd, F⟩ := T.d_Ground_init
  have X := fx_of T
  have c_need_rows := c_need_rows (P := P) (base := base) T
  refine ⟨fd, F.ok sc_Ground_init (fun vs H Q E h => by obtain ⟨_, _, _, _, _, rfl, _⟩ := h; rfl) (fun cdv A outer s H vs Q E hr h => ⟨_, (pss_cons (ps_set (i := 2) sc_Ground_init.nd rfl (Or.inl rfl) (pe_ifExp (pt_cmpR op_isK (pv 1) pe_non (nomark _)) (pe_lst pa_nil) (pv 1)))
    (pss_cons (ps_expr (pe_cr c_need_rows hr (by decide) rfl (takes_of rfl rfl rfl rfl) (pa_cons (pv 2) pa_nil)))
    (pss_cons (ps_fld (pv 0) (pe_callTy (call_listK (K := K)) rfl T.n_list b_list (pa_cons (pv 2) pa_nil)) rfl)
    (pss_one (ps_fld (pv 0) (pe_callTy (call_dictP rfl) rfl T.n_dict b_dict (pa_cons (pe_lc (own := [("row", 3)]) (g := (gName 3)) (tt := tYes) (by rfl) sc_Ground_init.nd (pi_list (pv 2)) (blkOk_by (N := N_Ground_init) (sc := defScope m_Ground_init) (by decide +kernel)) (fun _ _ _ _ _ => (pg_name (i := 3) sc_Ground_init.nd rfl (Or.inl rfl))) (fun _ _ _ _ _ => pts_nil) (fun _ _ _ _ _ => (pe_tup (pa_cons (pe_ix (ix_tupK (K := K)) (pv 3) pe_int (fun _ _ => rfl)) (pa_cons (pv 3) pa_nil))))) pa_nil)) rfl))))), ?_⟩), F⟩
  obtain ⟨x, dx, o, rows, H0, rfl, hx, hx0, e0, ho, hok, hl, q, r⟩ := h
  have step : ∀ Qk : VK, (∀ p H1, Same H H1 → Dt K H1 (.ref p) (.list (rowsD rows)) → RaiseC K H1 (.ref p) E (chk rows) → Qk (.ref p) H1) → tIf (tTest (tOp rIsN (tVar 1) (tC .non))) (tLst tNil) (tVar 1) [some (.ref x), some o, none, none] H Qk := fun Qk k => by
    rcases ho with ⟨rfl, rfl⟩ | ⟨a, rfl, h⟩
    · refine (est_op (K := K) (es_op od_isN (es_var (i := 1) rfl .non) es_non)).at fun H1 e1 => iteT ((es_lst (K := K) (ds := []) esa_nil).at fun v H2 e2 hv => ?_)
      cases hv with
      | lst h1 h2 => exact k _ _ (e1.trans e2) (.lst h1 h2) trivial
    · refine (est_op (es_op od_isN (es_var (i := 1) rfl (h.same e0)) es_non)).at fun H1 e1 => iteF ⟨_, rfl, k a H1 e1 (h.same (e0.trans e1)) (r.same (e0.trans e1))⟩
  refine step _ fun p H1 e1 h1 r1 => ?_
  have e01 := e0.trans e1
  refine ⟨_, rfl, p, rows, rfl, h1, hok, hl, fun hc H2 e2 => ?_, r1⟩
  have e02 := e01.trans e2
  have c : Cls K (He.ga K "Ground") := T.c_Ground
  refine (es_b cb_listL (esa_cons (es_var (i := 2) rfl (h1.same e2)) esa_nil)).at fun v3 H3 e3 h3 => ?_
  cases h3 with
  | @lst l xs3 _ h3 hr3 =>
  have hx3 := e3 _ _ (e2 _ _ (e1 _ _ hx))
  refine ⟨_, rfl, x, _, dx, [], rfl, hx3, c, T.o_Ground_kept_rows, by decide, ?_⟩
  have h13 := (h1.same (e2.trans e3)).ins hx3 (fs' := putF "kept_rows" (.ref l) [])
  have hl3 := (Dt.lst h3 hr3).ins hx3 (fs' := putF "kept_rows" (.ref l) [])
  have e03 : Same H0 (upd H3 x _) := same_own (e02.trans e3) hx0 (.ins (He.ga K "Ground") dx (putF "kept_rows" (.ref l) []))
  dsimp only
  refine at_fld (at_cb1 ((es_lc (p := fun _ => true) (f := fun d => match d with | .tuple (a :: b :: r) => .tuple [b, .tuple (a :: b :: r)] | _ => .none) (i := 3) (K := K) (vs := [3]) (tt := tYes) (σ := [some (.ref x), some o, some (.ref p), none]) (te := tTup (tCons (tOp (rIxT K) (tVar 3) (tC (.int 1))) (tCons (tVar 3) tNil))) (esi_list (es_var (i := 2) rfl h13)) (fun _ => rfl) (by simp [rowsD]; omega) (fun d hd _ => ?_) fun d hd v H4 e4 hv => ?_).at fun v4 H4 e4 h4 => ?_))
  · obtain ⟨r, hr, rfl⟩ := List.mem_map.mp hd
    have := flat_row r
    cases r <;> simp [Row.data, flatT, flatTs] at this ⊢ <;> simp [this, flat_w]
  · obtain ⟨r, hr, rfl⟩ := List.mem_map.mp hd
    obtain ⟨rds, hrd, hr1⟩ := row_1 r
    refine ⟨est_yes, fun _ => ((es_tup (esa_cons (es_op (od_ixT hr1) (es_var (i := 3) rfl (by rw [← hrd]; exact hv)) es_int) (esa_cons (es_var (i := 3) rfl hv) esa_nil))).eq ?_)⟩
    cases r <;> rfl
  rw [all_filter] at h4
  cases h4 with
  | @lst l4 xs4 _ h4 hr4 =>
  have hr4' : DtA K H4 xs4 (rows.map fun r => .tuple [wD r.name, r.data]) := by
    have : (rowsD rows).map (fun d => match d with | .tuple (a :: b :: r) => PyData.tuple [b, .tuple (a :: b :: r)] | _ => .none) = rows.map fun r => .tuple [wD r.name, r.data] := by
      unfold rowsD
      rw [List.map_map]
      apply List.map_congr_left
      intro r _
      cases r <;> rfl
    rw [← this]
    exact hr4
  obtain ⟨ps, kvs, rfl, hp⟩ := pairs_of hr4'
  refine ⟨l4, ps, kvs, rfl, SqL.of h4, hp, fun p5 hp5 => ?_⟩
  have e5 : Same _ (upd H4 p5 (.dK (mergeK [] kvs))) := same_new hp5 _
  have hx5 := e5 _ _ (e4 _ _ (upd_same (H := H3) (a := x) (o := .ins (He.ga K "Ground") dx (putF "kept_rows" (.ref l) []))))
  refine ⟨_, rfl, x, _, dx, _, rfl, hx5, c, T.o_Ground_kept_by, by show 1 < 1000; decide, ?_⟩
  refine q hc _ (same_own ((e03.trans e4).trans e5) hx0 _) ⟨dx, l, _, upd_same, ?_⟩
  exact (hl3.same (e4.trans e5)).ins hx5
/-- Ground() -/
theorem k_Ground0 (T : Tx w K mg) : MakR P w K mg base 226 "Ground" (He.ga K "Ground") (spGround K) [.non] := by
  obtain ⟨fd, ok, F⟩ := fn_Ground (P := P) (base := base) T
  obtain ⟨dvs, hdv, hdb⟩ := F.binds1 (ps := P_Ground_init) 1 0 (by simp) rfl fun TT kV doc pm an cdv ct us its h1 h2 => match us, its, h1, h2 with | [_], [_], _, _ => ⟨_, rfl, rfl⟩
  exact ⟨_, fd, P_Ground_init, dvs, T.k_Ground, ok, T.g_Ground, hdb, hdv⟩
/-- Ground(rows) -/
theorem k_Ground (T : Tx w K mg) : MakR P w K mg base 226 "Ground" (He.ga K "Ground") (spGround K) [] := by
  obtain ⟨fd, ok, F⟩ := fn_Ground (P := P) (base := base) T
  obtain ⟨dvs, hdv, hdb⟩ := F.binds1 (ps := P_Ground_init) 2 1 (by simp) rfl fun TT kV doc pm an cdv ct us its h1 h2 => match us, its, h1, h2 with | [_, _], [_], _, _ => ⟨_, rfl, rfl⟩
  exact ⟨_, fd, P_Ground_init, dvs, T.k_Ground, ok, T.g_Ground, hdb, hdv⟩
end
end K83
namespace K83
open PySem PySem.Spec PyProof.Rows L2
/-! ### what a line does to the rows -/
def w1 (ws : List Wd) : Wd := hd (ws.drop 1)
def w2 (ws : List Wd) : Wd := hd (ws.drop 2)
def lThing (ws : List Wd) (rows : List Row) : Option (List Row) := if ws.length = 3 ∧ isName (w1 ws) = true then (hgt (w2 ws)).map fun h => rows ++ [.thing (w1 ws) h [] []] else none
def lBound (ws : List Wd) (rows : List Row) : Option (List Row) := match rows.getLast? with
  | some (.thing n h bs []) => (rdW (ws.drop 1) bs.length).map fun t => rows.dropLast ++ [.thing n h (bs ++ [t]) []]
  | _ => none
def lMaker (ws : List Wd) (rows : List Row) : Option (List Row) := match rows.getLast? with
  | some (.thing n h bs ms) => if ws.length = 1 then some (rows.dropLast ++ [.thing n h bs (ms ++ [[]])]) else none
  | _ => none
def lArg (ws : List Wd) (rows : List Row) : Option (List Row) := match rows.getLast? with
  | some (.thing n h bs ms) => match ms.getLast? with
    | some l => (rdW (ws.drop 1) (bs.length + l.length)).map fun t => rows.dropLast ++ [.thing n h bs (ms.dropLast ++ [l ++ [t]])]
    | none => none
  | _ => none
def lMean (ws : List Wd) (rows : List Row) : Option (List Row) := if isName (w1 ws) = true ∧ w2 ws = wCol ∧ wEq ∈ ws then
    (rdW ((ws.take (ws.idxOf wEq)).drop 3) 0).bind fun a => (rdW (ws.drop (ws.idxOf wEq + 1)) 0).map fun b => rows ++ [.mean (w1 ws) a b] else none
def lHold (ws : List Wd) (rows : List Row) : Option (List Row) := if isName (w1 ws) = true ∧ w2 ws = wCol then (rdW (ws.drop 3) 0).map fun t => rows ++ [.hold (w1 ws) t] else none
def lineF (ws : List Wd) (rows : List Row) : Option (List Row) :=
  if hd ws = wThing then lThing ws rows else if hd ws = wBound then lBound ws rows else if hd ws = wMaker then lMaker ws rows else if hd ws = wArg then lArg ws rows
  else if hd ws = wMean then lMean ws rows else if hd ws = wHold then lHold ws rows else none
def isOpen (rows : List Row) : Bool := match rows.getLast? with
  | some (.thing _ _ _ _) => true
  | _ => false
theorem isOpen_app (rows : List Row) (r : Row) : isOpen (rows ++ [r]) = (match r with | .thing _ _ _ _ => true | _ => false) := by
  unfold isOpen
  rw [List.getLast?_append]
  cases r <;> rfl
/-! what may be asked -/
def Row.wide (j : Nat) : Row → Prop
  | .thing _ _ bs ms => bs.length ≤ j ∧ ms.length ≤ j ∧ ∀ l ∈ ms, l.length ≤ j
  | _ => True
def RowsOk (j : Nat) (rows : List Row) : Prop := rows.length ≤ j ∧ ∀ r ∈ rows, r.ok maxHt ∧ r.wide j
theorem rows_last {rows : List Row} {r : Row} (h : rows.getLast? = some r) : rows = rows.dropLast ++ [r] := by
  have hne : rows ≠ [] := by rintro rfl; cases h
  rw [List.getLast?_eq_some_getLast hne] at h
  cases h
  exact (List.dropLast_concat_getLast hne).symm
end K83
namespace K83
open PySem PySem.Spec PyProof.Rows L2
open C8 (Cal pe_c CalAt)
/-! ### two objects change -/
def Mo2 (a l : Addr) (H H' : Hp) : Prop := ∀ b o, b ≠ a → b ≠ l → H b = some o → H' b = some o
section
variable {K : PySem.W.Frag} {H H' H1 H2 H3 : Hp} {a l dx : Addr} {xs : List V} {rows : List Row} {v : V} {d : PyData} {r : Row} {σ : L2.St} {t : TE} {D : L2.Ends}
theorem Mo2.of (e : Same H H') : Mo2 a l H H' := fun b o _ _ q => e b o q
theorem Mo2.trans (e : Mo2 a l H H1) (f : Mo2 a l H1 H2) : Mo2 a l H H2 := fun b o n m q => f b o n m (e b o n m q)
theorem Mo2.upd_a {o : HO} : Mo2 a l H (upd H a o) := fun b u n _ q => by rw [upd_ne n]; exact q
theorem Mo2.upd_l {o : HO} : Mo2 a l H (upd H l o) := fun b u _ n q => by rw [upd_ne n]; exact q
/-- both are new since H0 -/
theorem Mo2.same {H0 : Hp} (e : Mo2 a l H H') (s : Same H0 H) (na : H0 a = none) (nl : H0 l = none) : Same H0 H' := fun b o q => e b o (ne_of_none q na) (ne_of_none q nl) (s b o q)
theorem Mo2.tk {u w : HO} (e : Mo2 a l H H') (ha : H a = some u) (hl : H l = some w) (nu : notTup u = true) (nw : notTup w = true) : TK K H H' := fun b ys q => by
  have no : ∀ z, H b = some z → notTup z = false → b ≠ a ∧ b ≠ l := fun z hz hn => ⟨fun y => (by rw [y, ha] at hz; cases hz; rw [nu] at hn; cases hn), fun y => (by rw [y, hl] at hz; cases hz; rw [nw] at hn; cases hn)⟩
  rcases q with (q | ⟨o, q⟩) | q
  · exact .inl (.inl (e _ _ (no _ q rfl).1 (no _ q rfl).2 q))
  · exact .inl (.inr ⟨o, e _ _ (no _ q rfl).1 (no _ q rfl).2 q⟩)
  · exact .inr q
/-! ### the reader's rows -/
abbrev fsR (l : Addr) (b : Bool) : List (Str × V) := [("kept_rows", .ref l), ("kept_open", .bl b)]
structure IsRx (K : PySem.W.Frag) (H : Hp) (a l dx : Addr) (xs : List V) (rows : List Row) : Prop where
  ins : H a = some (.ins (He.ga K "Rows") dx (fsR l (isOpen rows)))
  lst : H l = some (.lst xs)
  dat : DtA K H xs (rowsD rows)
def IsR (K : PySem.W.Frag) (H : Hp) (a l : Addr) (rows : List Row) : Prop := ∃ dx xs, IsRx K H a l dx xs rows
theorem IsRx.same (h : IsRx K H a l dx xs rows) (e : Same H H') : IsRx K H' a l dx xs rows := ⟨e _ _ h.ins, e _ _ h.lst, h.dat.same e⟩
theorem IsRx.ne (h : IsRx K H a l dx xs rows) : a ≠ l := fun e => by
  have := h.ins
  rw [e, h.lst] at this
  cases this
theorem rowsD_app (rows : List Row) (r : Row) : rowsD (rows ++ [r]) = rowsD rows ++ [r.data] := by simp [rowsD]
/-- a row is put behind -/
theorem IsRx.app (h : IsRx K H a l dx xs rows) (hv : Dt K H v r.data) {b : Bool} (hb : b = isOpen (rows ++ [r])) :
    IsRx K (upd (upd H l (.lst (xs ++ [v]))) a (.ins (He.ga K "Rows") dx (putF "kept_open" (.bl b) (fsR l (isOpen rows))))) a l dx (xs ++ [v]) (rows ++ [r]) := by
  have m : Mo2 a l H (upd (upd H l (.lst (xs ++ [v]))) a (.ins (He.ga K "Rows") dx (putF "kept_open" (.bl b) (fsR l (isOpen rows))))) := Mo2.upd_l.trans Mo2.upd_a
  have tk : TK K H _ := m.tk h.ins h.lst rfl rfl
  refine ⟨?_, ?_, ?_⟩
  · rw [upd_same, hb]; rfl
  · rw [upd_ne h.ne.symm, upd_same]
  · rw [rowsD_app]
    exact (h.dat.tk tk (flat_rows _)).app (.one (hv.tk tk (flat_row _)))
/-- the last row is another -/
theorem IsRx.put {r0 : Row} {init : List Row} (h : IsRx K H a l dx xs (init ++ [r0])) (hv : Dt K H v r.data) (ho : isOpen (init ++ [r0]) = isOpen (init ++ [r])) : IsRx K (upd H l (.lst (xs.set (xs.length - 1) v))) a l dx (xs.set (xs.length - 1) v) (init ++ [r]) := by
  have m : Mo2 a l H (upd H l (.lst (xs.set (xs.length - 1) v))) := Mo2.upd_l
  have tk : TK K H _ := m.tk h.ins h.lst rfl rfl
  have hl : xs.length = init.length + 1 := by rw [h.dat.len]; simp [rowsD]
  refine ⟨?_, upd_same, ?_⟩
  · rw [upd_ne h.ne, h.ins, ho]
  · have := ((h.dat.tk tk (flat_rows _)).set (hv.tk tk (flat_row _)) (xs.length - 1))
    rw [show (rowsD (init ++ [r0])).set (xs.length - 1) r.data = rowsD (init ++ [r]) by
      rw [hl, rowsD_app, rowsD_app]
      rw [List.set_append_right _ _ (by simp [rowsD])]
      simp [rowsD]] at this
    exact this
/-! fields -/
theorem es_fld {C : Addr} {fs : List (Str × V)} {f : Str} {i : Nat} (hs : σ[i]? = some (some (.ref a))) (ha : H a = some (.ins C dx fs)) (c : Cls K C) (n : NoAttr K C f) (lk : fs.lookup f = some v) (hv : Dt K H v d) : Es K (tFld K (tVar i) f) σ H d :=
  fun H1 e Q q => ⟨_, hs, a, C, dx, fs, v, rfl, e _ _ ha, c, n, lk, q v H1 (Same.refl _) (hv.same e)⟩
theorem es_neg1 : Es K (tUn (rU fun i => .int (-i)) (tC (.int 1))) σ H (.int (-1)) := fun H1 e Q q => ⟨1, rfl, q _ H1 (Same.refl _) (.int _)⟩
end
section
variable {P : Program} {w : World} {K : PySem.W.Frag} {mg : Str → Option Value} {base : Heap}
/-! ### Ground.rows -/
def spRows (K : PySem.W.Frag) : Sp := fun vs H Q _ => ∃ a ds, vs = [.ref a] ∧ IsG K H a ds ∧ Af K H (.list ds) Q
abbrev N_self : List Str := ["self"]
theorem sc_Ground_rows : FnScope N_self N_self (defScope m_Ground_rows) := ⟨rfl, rfl, rfl, by decide +kernel, rfl, by decide +kernel, by decide +kernel⟩
theorem m_rows (T : Tx w K mg) : C8.Met P w K mg base 1 (He.ga K "Ground") "rows" (spRows K) [] := by
  obtain ⟨fd, F⟩ := T.d_Ground_rows
  refine ⟨_, fd, N_self, [], T.c_Ground, T.e_Ground_rows, F.ok sc_Ground_rows (fun vs H Q E h => by obtain ⟨_, _, rfl, _⟩ := h; rfl) (fun cdv A outer s H vs Q E hr h => ⟨_, PSs.nox (pss_one (ps_ret (pe_callTy (call_listK (K := K)) rfl T.n_list b_list (pa_cons (pe_fld (pv 0) rfl) pa_nil)))), ?_⟩), F.bindsN fun _ _ _ _ _ _ us hl => match us, hl with | [_], _ => rfl, .nil⟩
  obtain ⟨a, ds, rfl, ⟨dx, l, kb, h1, h2⟩, q⟩ := h
  exact rd_ret (es_b cb_listL (esa_cons (es_fld rfl h1 T.c_Ground T.o_Ground_kept_rows rfl h2) esa_nil)) q
/-! ### Rows -/
def spR0 (K : PySem.W.Frag) : Sp := fun vs H Q _ => ∃ x dx H0, vs = [.ref x] ∧ H x = some (.ins (He.ga K "Rows") dx []) ∧ H0 x = none ∧ Same H0 H ∧ ∀ l H2, Same H0 H2 → H0 l = none → IsR K H2 x l [] → Q .non H2
theorem sc_Rows_init : FnScope N_self N_self (defScope m_Rows_init) := ⟨rfl, rfl, rfl, by decide +kernel, rfl, by decide +kernel, by decide +kernel⟩
theorem k_Rows (T : Tx w K mg) : C8.Mak P w K mg base 1 "Rows" (He.ga K "Rows") (spR0 K) [] := by
  obtain ⟨fd, F⟩ := T.d_Rows_init
  refine ⟨_, fd, N_self, [], T.k_Rows, F.ok sc_Rows_init (fun vs H Q E h => by obtain ⟨_, _, _, rfl, _⟩ := h; rfl) (fun cdv A outer s H vs Q E hr h => ⟨_, PSs.nox (pss_cons (ps_fld (pv 0) (pe_lst pa_nil) rfl) (pss_one (ps_fld (pv 0) pe_bl rfl))), ?_⟩), T.g_Rows, F.bindsN fun _ _ _ _ _ _ us hl => match us, hl with | [_], _ => rfl, .nil⟩
  obtain ⟨x, dx, H0, rfl, hx, hx0, e0, q⟩ := h
  refine ⟨by show 0 ≤ sizeLine; exact Nat.zero_le _, fun l hl => ?_⟩
  have e1 : Same H (upd H l (.lst [])) := same_new hl _
  have ne : l ≠ x := fun z => by rw [z, hx] at hl; cases hl
  refine ⟨_, rfl, x, _, dx, [], rfl, e1 _ _ hx, T.c_Rows, T.o_Rows_kept_rows, by decide, ?_⟩
  refine ⟨_, rfl, x, _, dx, _, rfl, upd_same, T.c_Rows, T.o_Rows_kept_open, by show 1 < 1000; decide, ?_⟩
  refine q l _ (same_own (same_own (e0.trans e1) hx0 _) hx0 _) (e0.free hl) ⟨dx, [], upd_same, ?_, .nil⟩
  rw [upd_ne ne, upd_ne ne, upd_same]
theorem pe_mk0 {X : Cx} {k j : Nat} {x : Str} {C : Addr} {sp : Sp} {p pos : Pos} (c : C8.Mak X.prog X.w X.K X.mg X.base k x C sp []) (hr : Room j X.A) (hk : k + 1 ≤ j) (hg : Gl X x) (hdb : (x == ("__debug__" : Str)) = false := by decide) : PE X (.Call (.Name x p) [] [] pos) (tMake C sp [] E0 tNil) := by
  obtain ⟨f, fd, ps, ds, M, F, hm, b, d⟩ := c.ex
  exact pe_make0 M F (hr.mono hk) hg hm b d C8.pass0 hdb
def spTold (K : PySem.W.Frag) : Sp := fun vs H Q _ => ∃ a l rows, vs = [.ref a] ∧ IsR K H a l rows ∧ Af K H (.list (rowsD rows)) Q
theorem sc_Rows_told : FnScope N_self N_self (defScope m_Rows_told) := ⟨rfl, rfl, rfl, by decide +kernel, rfl, by decide +kernel, by decide +kernel⟩
theorem m_told (T : Tx w K mg) : C8.Met P w K mg base 1 (He.ga K "Rows") "told" (spTold K) [] := by
  obtain ⟨fd, F⟩ := T.d_Rows_told
  refine ⟨_, fd, N_self, [], T.c_Rows, T.e_Rows_told, F.ok sc_Rows_told (fun vs H Q E h => by obtain ⟨_, _, _, rfl, _⟩ := h; rfl) (fun cdv A outer s H vs Q E hr h => ⟨_, PSs.nox (pss_one (ps_ret (pe_callTy (call_listK (K := K)) rfl T.n_list b_list (pa_cons (pe_fld (pv 0) rfl) pa_nil)))), ?_⟩), F.bindsN fun _ _ _ _ _ _ us hl => match us, hl with | [_], _ => rfl, .nil⟩
  obtain ⟨a, l, rows, rfl, ⟨dx, xs, h⟩, q⟩ := h
  exact rd_ret (es_b cb_listL (esa_cons (es_fld rfl h.ins T.c_Rows T.o_Rows_kept_rows rfl (.lst h.lst h.dat)) esa_nil)) q
end
end K83
namespace K83
open PySem PySem.Spec PyProof.Rows L2
open C8 (Cal pe_c CalAt)
/-! ### words that may be asked -/
def WsOk (ws : List Wd) : Prop := ws.length ≤ 4000 ∧ (∀ w ∈ ws, w.length ≤ 4000) ∧ cost 3 ws < mostCost
theorem cost_app (p : Nat) (a b : List Wd) : cost p (a ++ b) = cost p a + cost p b := by simp [cost]
theorem WsOk.drop {ws : List Wd} (h : WsOk ws) (k : Nat) : WsOk (ws.drop k) := by
  refine ⟨by rw [List.length_drop]; exact Nat.le_trans (Nat.sub_le _ _) h.1, fun w hw => h.2.1 w (List.mem_of_mem_drop hw), ?_⟩
  have := cost_drop_le (p := 3) ws 0 k (Nat.zero_le _)
  rw [List.drop_zero] at this
  exact Nat.lt_of_le_of_lt this h.2.2
theorem WsOk.take {ws : List Wd} (h : WsOk ws) (k : Nat) : WsOk (ws.take k) := by
  refine ⟨by rw [List.length_take]; exact Nat.le_trans (Nat.min_le_right _ _) h.1, fun w hw => h.2.1 w (List.mem_of_mem_take hw), ?_⟩
  have := cost_app 3 (ws.take k) (ws.drop k)
  rw [List.take_append_drop] at this
  have := h.2.2
  omega
theorem WsOk.hd_len {ws : List Wd} (h : WsOk ws) (k : Nat) : (hd (ws.drop k)).length ≤ 4000 := mem_len h.2.1 k
theorem wsD_drop (ws : List Wd) (k : Nat) : (wsD ws).drop k = wsD (ws.drop k) := by simp [wsD]
theorem wsD_take (ws : List Wd) (k : Nat) : (wsD ws).take k = wsD (ws.take k) := by simp [wsD]
/-- what a method of the rows promises -/
def spLine (K : PySem.W.Frag) (f : List Wd → List Row → Option (List Row)) : Sp := fun vs H Q E => ∃ (a l wl : Addr) (ws : List Wd) (rows : List Row) (j : Nat), vs = [.ref a, .ref wl] ∧ IsR K H a l rows ∧ Dt K H (.ref wl) (.list (wsD ws)) ∧ WsOk ws ∧ RowsOk j rows ∧ j ≤ 1900 ∧
  (∀ rows', f ws rows = some rows' → ∀ H2, Mo2 a l H H2 → IsR K H2 a l rows' → Q (.bl true) H2) ∧ (f ws rows = none → (∀ H2, Same H H2 → Q (.bl false) H2) ∧ ∀ v H2, Same H H2 → BadX K H2 "NoSign" "at" v E)
theorem spLine_len {K : PySem.W.Frag} {f : List Wd → List Row → Option (List Row)} : ∀ vs H Q E, spLine K f vs H Q E → vs.length = 2 := fun vs H Q E h => by
  obtain ⟨_, _, _, _, _, _, rfl, _⟩ := h
  rfl
section
variable {P : Program} {w : World} {K : PySem.W.Frag} {mg : Str → Option Value} {base : Heap}
theorem metR_of {C f : Addr} {m x qual : Str} {params : Arguments} {body : List Stmt} {scope : Scope} {fd : FuncData} {ps : List Str} {k : Nat} {sp : Sp} (c : Cls K C) (me : Meth K C m f) (F : FunD K x qual params body scope [] [] f fd) (ok : FnOk P w K mg base (L2.CX P w) k f fd ps sp)
    (h : ∀ (kV doc pm : Value) (an : Option Addr) (cdv ct : Value) (us : List Value), us.length = ps.length → bindArgs (PySem.W.fnOf x qual params body scope .none kV doc pm an cdv ct) ⟨us, []⟩ = pure (ps.zip us)) : MetR P w K mg base k C m sp :=
  ⟨_, _, ps, c, me, ok, F.bindsN h⟩
abbrev P_Rows : List Str := ["self", "words"]
abbrev N_Rows_thing : List Str := ["self", "words", "height"]
theorem sc_Rows_thing : FnScope N_Rows_thing P_Rows (defScope m_Rows_thing) := ⟨rfl, rfl, rfl, by decide +kernel, rfl, by decide +kernel, by decide +kernel⟩
theorem isNone_aD (o : Option Nat) : isNoneD (aD o) = o.isNone := by cases o <;> rfl
theorem m_thing (T : Tx w K mg) : MetR P w K mg base 3 (He.ga K "Rows") "thing" (spLine K lThing) := by
  obtain ⟨fd, F⟩ := T.d_Rows_thing
  have c_is_name := c_is_name (P := P) (base := base) T
  have c_word_at := c_word_at (P := P) (base := base) T
  have c_height_in := c_height_in (P := P) (base := base) T
  refine metR_of T.c_Rows T.e_Rows_thing F (F.ok sc_Rows_thing spLine_len (fun cdv A outer s H vs Q E hr h => ⟨_, (pss_cons (ps_set (i := 2) sc_Rows_thing.nd rfl (Or.inl rfl) (pe_c c_height_in hr (by decide) rfl (pa_cons (pe_c c_word_at hr (by decide) rfl (pa_cons (pv 1) (pa_cons pe_int pa_nil))) pa_nil)))
    (pss_cons (ps_if (PW.pt (pw_or (pt_cmpR op_ne (pe_callB (call_lenK (K := K)) rfl T.n_len PySem.boot_len (pa_cons (pv 1) pa_nil)) pe_int (nomark _)) (pw_or (pt_not (pt_val (pe_c c_is_name hr (by decide) rfl (pa_cons (pe_ix (ix_listK (K := K)) (pv 1) pe_int (fun _ _ => rfl)) pa_nil)))) (pw_or1 (pt_cmpR op_isK (pv 2) pe_non (nomark _)))))) (pss_one (ps_ret pe_bl)) pss_nil)
    (pss_cons (ps_expr (pe_bm PySem.F.plainAttrs_list PySem.F.slot_list_append PySem.F.type_list_append mt_append (pe_fld (pv 0) rfl) (pa_cons (pe_tup (pa_cons pe_str (pa_cons (pe_ix (ix_listK (K := K)) (pv 1) pe_int (fun _ _ => rfl)) (pa_cons (pv 2) (pa_cons (pe_tup pa_nil) (pa_cons (pe_tup pa_nil) pa_nil)))))) pa_nil)))
    (pss_cons (ps_fld (pv 0) pe_bl rfl)
    (pss_one (ps_ret pe_bl)))))), ?_⟩)) fun _ _ _ _ _ _ us hl => match us, hl with | [_, _], _ => rfl
  obtain ⟨a, l, wl, ws, rows, j, rfl, ⟨dx, xs, hR⟩, hwords, hok, hrows, hj, q1, q2⟩ := h
  refine rd_set (es_c (esa_cons (es_c (esa_cons (es_var rfl hwords) (esa_cons es_int esa_nil)) ⟨ws, 2, rfl, rfl⟩) esa_nil) ⟨_, rfl, hok.hd_len 2, rfl⟩) fun vh H2 e2 hheight => ?_
  have h1 : ws.length = 3 → (wsD ws)[1]? = some (wD (w1 ws)) := fun h => wsD_get (hd_get (by omega))
  refine rd_if (b := !decide (ws.length = 3) || (!isName (w1 ws) || (hgt (w2 ws)).isNone)) (est_or ((est_op (es_op od_neI (es_b cb_lenL (esa_cons (es_var rfl (hwords.same e2)) esa_nil)) es_int)).eq (by simp [wsD_len]; omega)) fun hc => (est_or (est_not (est_val (es_c (esa_cons (es_op (od_ixL (atI_nat (j := 1) (h1 (by simpa using hc)))) (es_var rfl (hwords.same e2)) es_int) esa_nil) ⟨_, rfl, hok.hd_len 1, rfl⟩))) fun _ => ((est_op (es_op od_isN (es_var rfl hheight) es_non)).eq (isNone_aD _)))) (fun H3 e3 hb => ?_) (fun H3 e3 hb => ?_)
  · have e : lThing ws rows = none := by
      unfold lThing
      by_cases c : ws.length = 3 ∧ isName (w1 ws) = true
      · rw [if_pos c]
        simp [c.1, c.2] at hb
        rw [hb]
        rfl
      · rw [if_neg c]
    exact (q2 e).1 H3 (e2.trans e3)
  · simp at hb
    obtain ⟨c1, c2, c3⟩ := hb
    obtain ⟨h, hh⟩ := Option.isSome_iff_exists.mp (by cases hx : hgt (w2 ws) with | none => simp [hx] at c3 | some _ => rfl : (hgt (w2 ws)).isSome = true)
    have e : lThing ws rows = some (rows ++ [.thing (w1 ws) h [] []]) := by
      unfold lThing
      rw [if_pos ⟨c1, c2⟩, hh]
      rfl
    have e23 := e2.trans e3
    have hR3 := hR.same e23
    have hh3 := hheight.same e3
    rw [show hgt (hd (ws.drop 2)) = some h from hh] at hh3
    refine ⟨_, rfl, a, _, dx, _, .ref l, rfl, hR3.ins, T.c_Rows, T.o_Rows_kept_rows, rfl, .inl ⟨rfl, _, SqL.of hR3.lst⟩, ?_⟩
    refine (esa_cons (es_tup (esa_cons (es_w wThing) (esa_cons (es_op (od_ixL (atI_nat (j := 1) (h1 c1))) (es_var (i := 1) rfl (hwords.same e23)) es_int) (esa_cons (es_var (i := 2) rfl hh3) (esa_cons (es_tup esa_nil) (esa_cons (es_tup esa_nil) esa_nil)))))) esa_nil).at fun vs H4 e4 hv0 => ?_
    obtain ⟨v, rfl, hv⟩ := hv0.one_inv
    have hR4 := hR3.same e4
    have hxl : xs.length < 100000 := by rw [hR.dat.len]; have := hrows.1; simp [rowsD]; omega
    refine ⟨l, xs, v, rfl, rfl, hR4.lst, len_lt (by omega), ?_⟩
    refine ⟨_, rfl, a, _, dx, _, rfl, by rw [upd_ne hR4.ne]; exact hR4.ins, T.c_Rows, T.o_Rows_kept_open, by show 2 < 1000; decide, ?_⟩
    refine q1 _ e _ ((Mo2.of (e23.trans e4)).trans (Mo2.upd_l.trans Mo2.upd_a)) ⟨dx, _, hR4.app (r := .thing (w1 ws) h [] []) hv ?_⟩
    rw [isOpen_app]
/-! hold, mean -/
theorem at_cons {ta : TE} {tr : TA} {σ : L2.St} {H : Hp} {Q : List V → Hp → Prop} (h : ta σ H fun x H1 => tr σ H1 fun xs H2 => Q (x :: xs) H2) : tCons ta tr σ H Q := h
theorem at_tup {tr : TA} {σ : L2.St} {H : Hp} {Q : VK} (h : tr σ H fun xs H2 => xs.length ≤ sizeLine ∧ ∀ p, H2 p = none → Q (.ref p) (upd H2 p (.tup xs))) : tTup tr σ H Q := h
abbrev N_Rows_hold : List Str := ["self", "words"]
theorem sc_Rows_hold : FnScope N_Rows_hold P_Rows (defScope m_Rows_hold) := ⟨rfl, rfl, rfl, by decide +kernel, rfl, by decide +kernel, by decide +kernel⟩
theorem name_at1 {ws : List Wd} (h : isName (w1 ws) = true) : (wsD ws)[1]? = some (wD (w1 ws)) := wsD_get (hd_get (lt_of_hd fun e => by rw [show w1 ws = [] from e] at h; exact absurd h (by decide)))
theorem m_hold (T : Tx w K mg) : MetR P w K mg base 219 (He.ga K "Rows") "hold" (spLine K lHold) := by
  obtain ⟨fd, F⟩ := T.d_Rows_hold
  have c_is_name := c_is_name (P := P) (base := base) T
  have c_word_at := c_word_at (P := P) (base := base) T
  have c_read_words := c_read_words (P := P) (base := base) T
  refine metR_of T.c_Rows T.e_Rows_hold F (F.ok sc_Rows_hold spLine_len (fun cdv A outer s H vs Q E hr h => ⟨_, (pss_cons (ps_if (PW.pt (pw_or (pt_not (pt_val (pe_c c_is_name hr (by decide) rfl (pa_cons (pe_c c_word_at hr (by decide) rfl (pa_cons (pv 1) (pa_cons pe_int pa_nil))) pa_nil)))) (pw_or1 (pt_cmpR op_ne (pe_c c_word_at hr (by decide) rfl (pa_cons (pv 1) (pa_cons pe_int pa_nil))) pe_str (nomark _))))) (pss_one (ps_ret pe_bl)) pss_nil)
    (pss_cons (ps_expr (pe_bm PySem.F.plainAttrs_list PySem.F.slot_list_append PySem.F.type_list_append mt_append (pe_fld (pv 0) rfl) (pa_cons (pe_tup (pa_cons pe_str (pa_cons (pe_ix (ix_listK (K := K)) (pv 1) pe_int (fun _ _ => rfl)) (pa_cons (pe_cr c_read_words hr (by decide) rfl (takes_of rfl rfl rfl rfl) (pa_cons (pe_slice (sl_listK (K := K)) (pv 1) (po_some pe_int) po_none) (pa_cons pe_int pa_nil))) pa_nil)))) pa_nil)))
    (pss_cons (ps_fld (pv 0) pe_bl rfl)
    (pss_one (ps_ret pe_bl))))), ?_⟩)) fun _ _ _ _ _ _ us hl => match us, hl with | [_, _], _ => rfl
  obtain ⟨a, l, wl, ws, rows, j, rfl, ⟨dx, xs, hR⟩, hwords, hok, hrows, hj, q1, q2⟩ := h
  have hwa : ∀ (k : Nat), Es K (tCall (spD K RWordAt) [] E0 (tCons (tVar 1) (tCons (tC (.int k)) tNil))) [some (.ref a), some (.ref wl)] H (wD (hd (ws.drop k))) := fun k => es_c (esa_cons (es_var rfl hwords) (esa_cons es_int esa_nil)) ⟨ws, k, rfl, rfl⟩
  refine rd_if (b := !isName (w1 ws) || !decide (w2 ws = wCol)) (est_or (est_not (est_val (es_c (esa_cons (hwa 1) esa_nil) ⟨_, rfl, hok.hd_len 1, rfl⟩))) fun _ => est_op (es_op od_neW (hwa 2) (es_w wCol))) (fun H3 e3 hb => ?_) (fun H3 e3 hb => ?_)
  · have e : lHold ws rows = none := if_neg fun c => by simp [c.1, c.2] at hb
    exact (q2 e).1 H3 e3
  · have hb : isName (w1 ws) = true ∧ w2 ws = wCol := by simpa using hb
    have e : lHold ws rows = (rdW (ws.drop 3) 0).map fun t => rows ++ [.hold (w1 ws) t] := if_pos hb
    have hR3 := hR.same e3
    have hxl : xs.length < 100000 := by rw [hR.dat.len]; have := hrows.1; simp [rowsD]; omega
    refine ⟨_, rfl, a, _, dx, _, .ref l, rfl, hR3.ins, T.c_Rows, T.o_Rows_kept_rows, rfl, .inl ⟨rfl, _, SqL.of hR3.lst⟩, ?_⟩
    refine at_cons (at_tup (at_cons ((es_w (K := K) wHold).at fun x1 H4 e4 h1 => at_cons ((es_op (od_ixL (atI_nat (j := 1) (name_at1 hb.1))) (es_var (i := 1) rfl (hwords.same (e3.trans e4))) es_int).at fun x2 H5 e5 h2 => at_cons (call_o (o := (rdW (ws.drop 3) 0).map K83.T.data) (esa_cons ((es_sl sd_list (es_var (i := 1) rfl (hwords.same ((e3.trans e4).trans e5))) eso_int eso_no).eq (congrArg PyData.list ((show cutD (wsD ws) (some 3) none = (wsD ws).drop 3 from cut_from _ 3).trans (wsD_drop ws 3)))) (esa_cons es_int esa_nil)) ⟨ws.drop 3, 0, rfl, (hok.drop 3).1, (hok.drop 3).2.1, (hok.drop 3).2.2, by decide, rfl⟩ (fun d v H6 ho e6 hv => ?_) (fun ho v H6 e6 => ?_))))))
    · obtain ⟨t, ht, rfl⟩ := Option.map_eq_some_iff.mp ho
      rw [ht] at e
      refine ⟨by show 3 ≤ sizeLine; decide, fun p hp => ?_⟩
      have e36 := ((e4.trans e5).trans e6).trans (same_new hp (.tup [x1, x2, v]))
      have hR4 := hR3.same e36
      have hvt : Dt K (upd H6 p (.tup [x1, x2, v])) (.ref p) (Row.data (.hold (w1 ws) t)) := .tup (SqT.of upd_same) (.cons ((h1.same (e5.trans e6)).same (same_new hp _)) (.cons ((h2.same e6).same (same_new hp _)) (.cons (hv.same (same_new hp _)) .nil)))
      refine ⟨l, xs, .ref p, rfl, rfl, hR4.lst, len_lt (by omega), ?_⟩
      refine ⟨_, rfl, a, _, dx, _, rfl, by rw [upd_ne hR4.ne]; exact hR4.ins, T.c_Rows, T.o_Rows_kept_open, by show 2 < 1000; decide, ?_⟩
      refine q1 _ e _ ((Mo2.of (e3.trans e36)).trans (Mo2.upd_l.trans Mo2.upd_a)) ⟨dx, _, hR4.app (r := .hold (w1 ws) t) hvt ?_⟩
      rw [isOpen_app]
    · have hn : rdW (ws.drop 3) 0 = none := by cases hx : rdW (ws.drop 3) 0 with | none => rfl | some t => rw [hx] at ho; cases ho
      rw [hn] at e
      exact (q2 e).2 v H6 (((e3.trans e4).trans e5).trans e6)
end
end K83
namespace K83
open PySem PySem.Spec PyProof.Rows L2
open C8 (Cal pe_c CalAt)
section
variable {P : Program} {w : World} {K : PySem.W.Frag} {mg : Str → Option Value} {base : Heap}
theorem idxW_get {w : Wd} : ∀ {ws : List Wd}, w ∈ ws → ws[ws.idxOf w]? = some w ∧ ∀ m, m < ws.idxOf w → ws[m]? ≠ some w := fun {ws} h => by
  have hlt := List.idxOf_lt_length_of_mem h
  refine ⟨by rw [List.getElem?_eq_getElem hlt, List.getElem_idxOf hlt], fun m hm e => ?_⟩
  have h1 := List.getElem?_eq_some_iff.mp e
  obtain ⟨h2, h3⟩ := h1
  have h4 := List.not_of_lt_findIdx (xs := ws) (p := (· == w)) (i := m) hm
  rw [h3] at h4
  simp at h4
theorem md_indexW {wd : Wd} {ws : List Wd} (h : wd ∈ ws) : MtD K (rIndex K) (.list (wsD ws)) [wD wd] (.int (ws.idxOf wd : Nat)) := fun H x vs hx hvs Q q => by
  obtain ⟨v, rfl, hv⟩ := hvs.one_inv
  cases hv
  cases hx with
  | lst hl hr =>
    have e := Dt.ws_eq hr
    subst e
    obtain ⟨h1, h2⟩ := idxW_get h
    have eq : ∀ a b : Wd, eqV (wV a) (wV b) = decide (a = b) := fun a b => by
      show ((S a) == (S b)) = _
      by_cases e : a = b
      · subst e; simp
      · have : S a ≠ S b := fun z => e (SX.S_inj z)
        rw [beq_eq_false_iff_ne.mpr this, decide_eq_false e]
    refine ⟨_, _, _, ws.idxOf wd, wV wd, rfl, rfl, SqL.of hl, rfl, flat_ws ws, by rw [List.getElem?_map, h1]; rfl, by rw [show (V.str (S wd)) = wV wd from rfl, eq]; simp, fun m z' hm hz => ?_, q _ _ (Same.refl H) (.int _)⟩
    rw [List.getElem?_map] at hz
    cases e : ws[m]? with
    | none => rw [e] at hz; cases hz
    | some o =>
      rw [e] at hz
      cases hz
      rw [show (V.str (S wd)) = wV wd from rfl, eq, decide_eq_false]
      intro z
      rw [z] at e
      exact h2 m hm e
abbrev N_Rows_mean : List Str := ["self", "words", "at"]
theorem sc_Rows_mean : FnScope N_Rows_mean P_Rows (defScope m_Rows_mean) := ⟨rfl, rfl, rfl, by decide +kernel, rfl, by decide +kernel, by decide +kernel⟩
theorem m_mean (T : Tx w K mg) : MetR P w K mg base 219 (He.ga K "Rows") "mean" (spLine K lMean) := by
  obtain ⟨fd, F⟩ := T.d_Rows_mean
  have c_is_name := c_is_name (P := P) (base := base) T
  have c_word_at := c_word_at (P := P) (base := base) T
  have c_read_words := c_read_words (P := P) (base := base) T
  refine metR_of T.c_Rows T.e_Rows_mean F (F.ok sc_Rows_mean spLine_len (fun cdv A outer s H vs Q E hr h => ⟨_, (pss_cons (ps_if (PW.pt (pw_or (pt_not (pt_val (pe_c c_is_name hr (by decide) rfl (pa_cons (pe_c c_word_at hr (by decide) rfl (pa_cons (pv 1) (pa_cons pe_int pa_nil))) pa_nil)))) (pw_or (pt_cmpR op_ne (pe_c c_word_at hr (by decide) rfl (pa_cons (pv 1) (pa_cons pe_int pa_nil))) pe_str (nomark _)) (pw_or1 (pt_cmpR (op_notInK (K := K)) pe_str (pv 1) (by rfl)))))) (pss_one (ps_ret pe_bl)) pss_nil)
    (pss_cons (ps_set (i := 2) sc_Rows_mean.nd rfl (Or.inl rfl) (pe_bm PySem.F.plainAttrs_list PySem.F.slot_list_index PySem.F.type_list_index (mt_indexK (K := K)) (pv 1) (pa_cons pe_str pa_nil)))
    (pss_cons (ps_expr (pe_bm PySem.F.plainAttrs_list PySem.F.slot_list_append PySem.F.type_list_append mt_append (pe_fld (pv 0) rfl) (pa_cons (pe_tup (pa_cons pe_str (pa_cons (pe_ix (ix_listK (K := K)) (pv 1) pe_int (fun _ _ => rfl)) (pa_cons (pe_cr c_read_words hr (by decide) rfl (takes_of rfl rfl rfl rfl) (pa_cons (pe_slice (sl_listK (K := K)) (pv 1) (po_some pe_int) (po_some (pv 2))) (pa_cons pe_int pa_nil))) (pa_cons (pe_cr c_read_words hr (by decide) rfl (takes_of rfl rfl rfl rfl) (pa_cons (pe_slice (sl_listK (K := K)) (pv 1) (po_some (pe_op op_add (pv 2) pe_int)) po_none) (pa_cons pe_int pa_nil))) pa_nil))))) pa_nil)))
    (pss_cons (ps_fld (pv 0) pe_bl rfl)
    (pss_one (ps_ret pe_bl)))))), ?_⟩)) fun _ _ _ _ _ _ us hl => match us, hl with | [_, _], _ => rfl
  obtain ⟨a, l, wl, ws, rows, j, rfl, ⟨dx, xs, hR⟩, hwords, hok, hrows, hj, q1, q2⟩ := h
  have hwa : ∀ (k : Nat), Es K (tCall (spD K RWordAt) [] E0 (tCons (tVar 1) (tCons (tC (.int k)) tNil))) [some (.ref a), some (.ref wl), none] H (wD (hd (ws.drop k))) := fun k => es_c (esa_cons (es_var rfl hwords) (esa_cons es_int esa_nil)) ⟨ws, k, rfl, rfl⟩
  refine rd_if (b := !isName (w1 ws) || (!decide (w2 ws = wCol) || !decide (wEq ∈ ws))) (est_or (est_not (est_val (es_c (esa_cons (hwa 1) esa_nil) ⟨_, rfl, hok.hd_len 1, rfl⟩))) fun _ => est_or (est_op (es_op od_neW (hwa 2) (es_w wCol))) fun _ => ((est_op (es_op od_notIn (es_w wEq) (es_var rfl hwords))).eq (by simp))) (fun H3 e3 hb => ?_) (fun H3 e3 hb => ?_)
  · have e : lMean ws rows = none := if_neg fun c => by simp [c.1, c.2.1, c.2.2] at hb
    exact (q2 e).1 H3 e3
  · have hb : isName (w1 ws) = true ∧ w2 ws = wCol ∧ wEq ∈ ws := by simpa using hb
    have e : lMean ws rows = (rdW ((ws.take (ws.idxOf wEq)).drop 3) 0).bind fun a => (rdW (ws.drop (ws.idxOf wEq + 1)) 0).map fun b => rows ++ [.mean (w1 ws) a b] := if_pos hb
    generalize hat : ws.idxOf wEq = at_ at e
    refine rd_set (es_m (T := "list") (md_indexW hb.2.2) (es_var rfl (hwords.same e3)) (esa_cons (es_w wEq) esa_nil) ty_list) fun vat Ha ea hva => ?_
    rw [hat] at hva
    obtain rfl := dt_int hva
    have e3 := e3.trans ea
    have hR3 := hR.same e3
    have hxl : xs.length < 100000 := by rw [hR.dat.len]; have := hrows.1; simp [rowsD]; omega
    refine ⟨_, rfl, a, _, dx, _, .ref l, rfl, hR3.ins, T.c_Rows, T.o_Rows_kept_rows, rfl, .inl ⟨rfl, _, SqL.of hR3.lst⟩, ?_⟩
    refine at_cons (at_tup (at_cons ((es_w (K := K) wMean).at fun x1 H4 e4 h1 => at_cons ((es_op (od_ixL (atI_nat (j := 1) (name_at1 hb.1))) (es_var (i := 1) rfl (hwords.same (e3.trans e4))) es_int).at fun x2 H5 e5 h2 => at_cons (call_o (o := (rdW ((ws.take at_).drop 3) 0).map K83.T.data) (esa_cons ((es_sl sd_list (es_var (i := 1) rfl (hwords.same ((e3.trans e4).trans e5))) eso_int (eso_some (K := K) (es_var (i := 2) rfl (.int _)))).eq (congrArg PyData.list ((show cutD (wsD ws) (some ((3 : Nat) : Int)) (some (at_ : Int)) = ((wsD ws).take at_).drop 3 from cut_mid _ 3 at_).trans (by rw [wsD_take, wsD_drop])))) (esa_cons es_int esa_nil)) ⟨(ws.take at_).drop 3, 0, rfl, ((hok.take at_).drop 3).1, ((hok.take at_).drop 3).2.1, ((hok.take at_).drop 3).2.2, by decide, rfl⟩ (fun d v H6 ho e6 hv => ?_) (fun ho v H6 e6 => ?_))))))
    · obtain ⟨t, ht, rfl⟩ := Option.map_eq_some_iff.mp ho
      rw [ht, Option.bind_some] at e
      have e36 := ((e3.trans e4).trans e5).trans e6
      refine at_cons (call_o (o := (rdW (ws.drop (at_ + 1)) 0).map K83.T.data) (esa_cons ((es_sl sd_list (es_var (i := 1) rfl (hwords.same e36)) (eso_some (K := K) (es_op od_add (es_var (i := 2) rfl (.int _)) es_int)) eso_no).eq (congrArg PyData.list ((show cutD (wsD ws) (some ((at_ + 1 : Nat) : Int)) none = (wsD ws).drop (at_ + 1) from cut_from _ (at_ + 1)).trans (wsD_drop ws (at_ + 1))))) (esa_cons es_int esa_nil)) ⟨ws.drop (at_ + 1), 0, rfl, (hok.drop (at_ + 1)).1, (hok.drop (at_ + 1)).2.1, (hok.drop (at_ + 1)).2.2, by decide, rfl⟩ (fun d v' H7 ho' e7 hv' => ?_) (fun ho' v' H7 e7 => ?_))
      · obtain ⟨t', ht', rfl⟩ := Option.map_eq_some_iff.mp ho'
        rw [ht', Option.map_some] at e
        refine ⟨by show 4 ≤ sizeLine; decide, fun p hp => ?_⟩
        have e37 := (((e4.trans e5).trans e6).trans e7).trans (same_new hp (.tup [x1, x2, v, v']))
        have hR4 := hR3.same e37
        have hvt : Dt K (upd H7 p (.tup [x1, x2, v, v'])) (.ref p) (Row.data (.mean (w1 ws) t t')) := .tup (SqT.of upd_same) (.cons ((h1.same ((e5.trans e6).trans e7)).same (same_new hp _)) (.cons ((h2.same (e6.trans e7)).same (same_new hp _)) (.cons ((hv.same e7).same (same_new hp _)) (.cons (hv'.same (same_new hp _)) .nil))))
        refine ⟨l, xs, .ref p, rfl, rfl, hR4.lst, len_lt (by omega), ?_⟩
        refine ⟨_, rfl, a, _, dx, _, rfl, by rw [upd_ne hR4.ne]; exact hR4.ins, T.c_Rows, T.o_Rows_kept_open, by show 2 < 1000; decide, ?_⟩
        refine q1 _ e _ ((Mo2.of (e3.trans e37)).trans (Mo2.upd_l.trans Mo2.upd_a)) ⟨dx, _, hR4.app (r := .mean (w1 ws) t t') hvt ?_⟩
        rw [isOpen_app]
      · have hn : rdW (ws.drop (at_ + 1)) 0 = none := by cases hx : rdW (ws.drop (at_ + 1)) 0 with | none => rfl | some t => rw [hx] at ho'; cases ho'
        rw [hn] at e
        exact (q2 e).2 v' H7 (e36.trans e7)
    · have hn : rdW ((ws.take at_).drop 3) 0 = none := by cases hx : rdW ((ws.take at_).drop 3) 0 with | none => rfl | some t => rw [hx] at ho; cases ho
      rw [hn] at e
      exact (q2 e).2 v H6 (((e3.trans e4).trans e5).trans e6)
end
end K83
namespace K83
open PySem PySem.Spec PyProof.Rows L2
open C8 (Cal pe_c CalAt)
/-! ### a tuple beside the empty one -/
def rEqE (K : PySem.W.Frag) : R2 := fun x y H Q => ∃ ds, Dp K H x (.tuple ds) ∧ Dp K H y (.tuple []) ∧ PyData.canLay0 (.tuple ds) = true ∧ Q (.bl ds.isEmpty) H
def rNeE (K : PySem.W.Frag) : R2 := fun x y H Q => ∃ ds, Dp K H x (.tuple ds) ∧ Dp K H y (.tuple []) ∧ PyData.canLay0 (.tuple ds) = true ∧ Q (.bl (!ds.isEmpty)) H
theorem eqv_e (ds : List PyData) : PyData.eqv (.tuple ds) (.tuple []) = ds.isEmpty := by
  cases ds <;> simp [PyData.eqv, PyData.eqvAll]
theorem dep_e (ds : List PyData) {n : Nat} (h : n + 64 < cLine) : n + min (PyData.tuple ds).depth (PyData.tuple []).depth < cLine := by
  have h1 : (PyData.tuple []).depth ≤ 64 := by decide
  have h2 : min (PyData.tuple ds).depth (PyData.tuple []).depth ≤ (PyData.tuple []).depth := Nat.min_le_right _ _
  omega
theorem op_eqE {X : Cx} {K : PySem.W.Frag} (hu : X.A.units + 64 < cLine) (hK : X.K = K := by rfl) : OpR X (compareOp .Eq) (rEqE K) := by
  subst hK
  intro pins s σ H x y v u Q I rx ry h
  obtain ⟨ds, hd, he, sd, q⟩ := h
  obtain ⟨as, r1⟩ := Dp.reads I _ x v hd rx
  obtain ⟨bs, r2⟩ := Dp.reads I _ y u he ry
  exact SeqAt.compareEq_reads r1 r2 sd (by decide) (dep_e ds hu) ⟨.bl _, H, I, rfl, by rw [eqv_e]; exact q⟩
theorem op_neE {X : Cx} {K : PySem.W.Frag} (hu : X.A.units + 64 < cLine) (hK : X.K = K := by rfl) : OpR X (compareOp .NotEq) (rNeE K) := by
  subst hK
  intro pins s σ H x y v u Q I rx ry h
  obtain ⟨ds, hd, he, sd, q⟩ := h
  obtain ⟨as, r1⟩ := Dp.reads I _ x v hd rx
  obtain ⟨bs, r2⟩ := Dp.reads I _ y u he ry
  exact SeqAt.compareNe_reads r1 r2 sd (by decide) (dep_e ds hu) ⟨.bl _, H, I, rfl, by rw [eqv_e]; exact q⟩
theorem od_eqE {K : PySem.W.Frag} {ds : List PyData} (h : PyData.canLay0 (.tuple ds) = true) : OpD K (rEqE K) (.tuple ds) (.tuple []) (.bool ds.isEmpty) := fun H x y hx hy Q q => ⟨ds, hx.dp, hy.dp, h, q _ _ (Same.refl H) (.bl _)⟩
theorem od_neE {K : PySem.W.Frag} {ds : List PyData} (h : PyData.canLay0 (.tuple ds) = true) : OpD K (rNeE K) (.tuple ds) (.tuple []) (.bool (!ds.isEmpty)) := fun H x y hx hy Q q => ⟨ds, hx.dp, hy.dp, h, q _ _ (Same.refl H) (.bl _)⟩
theorem lay_w {w : Wd} (h : ∀ c ∈ w, c < 0x110000) : PyData.canLay0 (wD w) = true := by
  unfold wD PyData.canLay0
  show Array.all (Array.mk w) _ = true
  rw [← Array.all_toList]
  exact List.all_eq_true.mpr fun c hc => decide_eq_true (h c hc)
theorem lay_name {w : Wd} (h : isName w = true) : PyData.canLay0 (wD w) = true := lay_w fun c hc => by
  have : isLow c = true := by
    unfold isName at h
    simp at h
    first
      | exact h.2 c hc
      | exact h.2.2 c hc
      | exact h.1.2 c hc
  unfold isLow at this
  simp at this
  omega
theorem lay_term : ∀ t : T, t.ok → PyData.canLay0 t.data = true
  | .thing n, h => by simp only [T.data, PyData.canLay0, PyData.canLayAll0, lay_name (show isName n = true from h), Bool.and_true]; exact lay_w (by decide)
  | .at _, _ => by simp only [T.data, PyData.canLay0, PyData.canLayAll0, Bool.and_true]; exact lay_w (by decide)
  | .kind _, _ => by simp only [T.data, PyData.canLay0, PyData.canLayAll0, Bool.and_true]; exact lay_w (by decide)
  | .name n, h => by simp only [T.data, PyData.canLay0, PyData.canLayAll0, lay_name (show isName n = true from h), Bool.and_true]; exact lay_w (by decide)
  | .maker n _, h => by simp only [T.data, PyData.canLay0, PyData.canLayAll0, lay_name (show isName n = true from h), Bool.and_true]; exact lay_w (by decide)
  | .eater n _, h => by simp only [T.data, PyData.canLay0, PyData.canLayAll0, lay_name h.1, Bool.and_true]; exact lay_w (by decide)
  | .n2 w x y, h => by
    simp only [T.data, PyData.canLay0, PyData.canLayAll0, lay_term x h.2.1, lay_term y h.2.2, Bool.and_true]
    rcases h.1 with rfl | rfl | rfl | rfl <;> exact lay_w (by decide)
  | .n3 w x y z, h => by
    simp only [T.data, PyData.canLay0, PyData.canLayAll0, lay_term x h.2.1, lay_term y h.2.2.1, lay_term z h.2.2.2, Bool.and_true]
    rcases h.1 with rfl | rfl <;> exact lay_w (by decide)
theorem lay_terms : ∀ ts : List T, (∀ t ∈ ts, t.ok) → PyData.canLayAll0 (ts.map T.data) = true
  | [], _ => rfl
  | t :: ts, h => by
    simp only [List.map_cons, PyData.canLayAll0, lay_term t (h t List.mem_cons_self), lay_terms ts fun u hu => h u (List.mem_cons_of_mem _ hu), Bool.and_true]
theorem lay_lists : ∀ ms : List (List T), (∀ l ∈ ms, ∀ t ∈ l, t.ok) → PyData.canLayAll0 (ms.map tsD) = true
  | [], _ => rfl
  | l :: ms, h => by
    simp only [List.map_cons, PyData.canLayAll0, lay_lists ms fun u hu => h u (List.mem_cons_of_mem _ hu), Bool.and_true]
    exact lay_terms l (h l List.mem_cons_self)
theorem lay_ms {n : Wd} {hh m : Nat} {bs : List T} {ms : List (List T)} (h : (Row.thing n hh bs ms).ok m) : PyData.canLay0 (.tuple (ms.map tsD)) = true := lay_lists ms fun l hl t ht => (h.2.2.2.1 l hl t ht).1
end K83
namespace K83
open PySem PySem.Spec PyProof.Rows L2
open C8 (Cal pe_c CalAt)
theorem isOpen_last {rows : List Row} (h : isOpen rows = true) : ∃ n hh bs ms, rows.getLast? = some (.thing n hh bs ms) := by
  unfold isOpen at h
  split at h
  · rename_i n hh bs ms e
    exact ⟨n, hh, bs, ms, e⟩
  · cases h
theorem rowsD_last {rows : List Row} {r : Row} (h : rows.getLast? = some r) : (rowsD rows).getLast? = some r.data := by
  unfold rowsD
  rw [List.getLast?_map, h]
  rfl
theorem not_open {rows : List Row} (h : isOpen rows = false) : ∀ n hh bs ms, rows.getLast? ≠ some (.thing n hh bs ms) := fun n hh bs ms e => by
  unfold isOpen at h
  rw [e] at h
  cases h
theorem cut4 {a b c d e : PyData} : cutD [a, b, c, d, e] none (some 4) = [a, b, c, d] := cut_to _ 4
theorem cut3 {a b c d e : PyData} : cutD [a, b, c, d, e] none (some 3) = [a, b, c] := cut_to _ 3
theorem ixN_m1 {n : Nat} (h : 0 < n) : ixN n (-1) = some (n - 1) := by
  unfold ixN
  rw [if_neg (by omega), if_pos (by omega)]
  rw [show ((-1 : Int) + (n : Int)).toNat = n - 1 by omega]
section
variable {P : Program} {w : World} {K : PySem.W.Frag} {mg : Str → Option Value} {base : Heap}
/-- kept_rows[-1] = .. -/
theorem rd_put {T : Tx w K mg} {σ : L2.St} {H : Hp} {te : TE} {D : L2.Ends} {a l dx : Addr} {xs : List V} {rows : List Row} {r0 r : Row} (hs : σ[0]? = some (some (.ref a))) (hR : IsRx K H a l dx xs rows) (hl : rows.getLast? = some r0) (ho : isOpen rows = isOpen (rows.dropLast ++ [r])) (h : Es K te σ H r.data)
    (q : ∀ H2, Mo2 a l H H2 → IsR K H2 a l (rows.dropLast ++ [r]) → D.nx σ H2) : tAsg te (gSub (tFld K (tVar 0) "kept_rows") (tUn (rU fun i => .int (-i)) (tC (.int 1))) rSetL) D σ H := h.at fun v H2 e2 hv => by
  have hR2 := hR.same e2
  have hxl : 0 < xs.length := by
    rw [hR.dat.len]
    have : rows ≠ [] := by rintro rfl; cases hl
    simp [rowsD]
    exact List.length_pos_iff.mpr this
  refine ⟨_, hs, a, _, dx, _, .ref l, rfl, hR2.ins, T.c_Rows, T.o_Rows_kept_rows, rfl, 1, rfl, l, xs, -1, xs.length - 1, rfl, rfl, hR2.lst, ixN_m1 hxl, ?_⟩
  have e := rows_last hl
  have hR3 : IsRx K H2 a l dx xs (rows.dropLast ++ [r0]) := by rw [← e]; exact hR2
  exact q _ ((Mo2.of e2).trans Mo2.upd_l) ⟨dx, _, hR3.put hv (by rw [← e]; exact ho)⟩
theorem open_put {rows : List Row} {n n' : Wd} {h h' : Nat} {bs bs' : List T} {ms ms' : List (List T)} (hl : rows.getLast? = some (.thing n h bs ms)) : isOpen rows = isOpen (rows.dropLast ++ [.thing n' h' bs' ms']) := by
  rw [isOpen_app]
  unfold isOpen
  rw [hl]
theorem tsD_app (a b : List T) : (a ++ b).map T.data = a.map T.data ++ b.map T.data := List.map_append
/-! maker -/
abbrev N_Rows_maker : List Str := ["self", "words", "row"]
theorem sc_Rows_maker : FnScope N_Rows_maker P_Rows (defScope m_Rows_maker) := ⟨rfl, rfl, rfl, by decide +kernel, rfl, by decide +kernel, by decide +kernel⟩
theorem wide_ok {j : Nat} {rows : List Row} {r : Row} (h : RowsOk j rows) (hl : rows.getLast? = some r) : r.ok maxHt ∧ r.wide j := h.2 r (List.mem_of_getLast? hl)
theorem m_maker (T : Tx w K mg) : MetR P w K mg base 3 (He.ga K "Rows") "maker" (spLine K lMaker) := by
  obtain ⟨fd, F⟩ := T.d_Rows_maker
  refine metR_of T.c_Rows T.e_Rows_maker F (F.ok sc_Rows_maker spLine_len (fun cdv A outer s H vs Q E hr h => ⟨_, (pss_cons (ps_if (PW.pt (pw_or (pt_not (pt_val (pe_fld (pv 0) rfl))) (pw_or1 (pt_cmpR op_ne (pe_callB (call_lenK (K := K)) rfl T.n_len PySem.boot_len (pa_cons (pv 1) pa_nil)) pe_int (nomark _))))) (pss_one (ps_ret pe_bl)) pss_nil)
    (pss_cons (ps_set (i := 2) sc_Rows_maker.nd rfl (Or.inl rfl) (pe_ix (ix_listK (K := K)) (pe_fld (pv 0) rfl) (pe_un un_neg pe_int) (fun _ _ => rfl)))
    (pss_cons (ps_asg (pe_op (op_catK (K := K)) (pe_slice (sl_tupK (K := K)) (pv 2) po_none (po_some pe_int)) (pe_tup (pa_cons (pe_op (op_catK (K := K)) (pe_ix (ix_tupK (K := K)) (pv 2) pe_int (fun _ _ => rfl)) (pe_tup (pa_cons (pe_tup pa_nil) pa_nil))) pa_nil))) (pg_sub (pe_fld (pv 0) rfl) (pe_un un_neg pe_int) set_list))
    (pss_one (ps_ret pe_bl))))), ?_⟩)) fun _ _ _ _ _ _ us hl => match us, hl with | [_, _], _ => rfl
  obtain ⟨a, l, wl, ws, rows, j, rfl, ⟨dx, xs, hR⟩, hwords, hok, hrows, hj, q1, q2⟩ := h
  refine rd_if (b := !isOpen rows || !decide (ws.length = 1)) (est_or (est_not (est_val (es_fld (i := 0) rfl hR.ins T.c_Rows T.o_Rows_kept_open rfl (.bl _)))) fun _ => ((est_op (es_op od_neI (es_b cb_lenL (esa_cons (es_var rfl hwords) esa_nil)) es_int)).eq (by simp [wsD_len]; omega))) (fun H3 e3 hb => ?_) (fun H3 e3 hb => ?_)
  · have e : lMaker ws rows = none := by
      unfold lMaker
      split
      · rename_i n hh bs ms hl
        have : isOpen rows = true := by unfold isOpen; rw [hl]
        rw [this] at hb
        rw [if_neg (by simpa using hb)]
      · rfl
    exact (q2 e).1 H3 e3
  · simp at hb
    obtain ⟨n, hh, bs, ms, hl⟩ := isOpen_last hb.1
    have e : lMaker ws rows = some (rows.dropLast ++ [.thing n hh bs (ms ++ [[]])]) := by
      unfold lMaker
      rw [hl]
      simp only
      rw [if_pos hb.2]
    have hw := wide_ok hrows hl
    have hw1 : ms.length ≤ j := hw.2.2.1
    have hR3 := hR.same e3
    refine rd_set (d := .tuple [wD wThing, wD n, .int hh, tsD bs, .tuple (ms.map tsD)]) (es_op (od_ixL (atI_m1 (rowsD_last hl))) (es_fld (i := 0) rfl hR3.ins T.c_Rows T.o_Rows_kept_rows rfl (.lst hR3.lst hR3.dat)) es_neg1) fun vr H4 e4 hrow => ?_
    refine rd_put (T := T) (r := .thing n hh bs (ms ++ [[]])) rfl (hR3.same e4) hl (open_put hl) ((es_op (od_catT (by rw [cut4]; simp)) (es_sl sd_tup (es_var (i := 2) rfl hrow) eso_no eso_int) (es_tup (esa_cons (es_op (od_catT (by simp; omega)) (es_op (od_ixT atI_4) (es_var (i := 2) rfl hrow) es_int) (es_tup (esa_cons (es_tup esa_nil) esa_nil))) esa_nil))).eq ?_) fun H5 e5 h5 => ?_
    · rw [cut4]
      show _ = PyData.tuple [wD wThing, wD n, .int hh, tsD bs, .tuple ((ms ++ [[]]).map tsD)]
      rw [List.map_append]
      rfl
    · exact q1 _ e _ ((Mo2.of (e3.trans e4)).trans e5) h5
/-! bound -/
abbrev N_Rows_bound : List Str := ["self", "words", "row", "saying"]
theorem sc_Rows_bound : FnScope N_Rows_bound P_Rows (defScope m_Rows_bound) := ⟨rfl, rfl, rfl, by decide +kernel, rfl, by decide +kernel, by decide +kernel⟩
theorem m_bound (T : Tx w K mg) : MetR P w K mg base 219 (He.ga K "Rows") "bound" (spLine K lBound) := by
  obtain ⟨fd, F⟩ := T.d_Rows_bound
  have c_read_words := c_read_words (P := P) (base := base) T
  refine metR_of T.c_Rows T.e_Rows_bound F (F.ok sc_Rows_bound spLine_len (fun cdv A outer s H vs Q E hr h => ⟨_, (pss_cons (ps_if (PW.pt (pw_or (pt_not (pt_val (pe_fld (pv 0) rfl))) (pw_or1 (pt_cmpR (op_neE (K := K) hr.units) (pe_ix (ix_tupK (K := K)) (pe_ix (ix_listK (K := K)) (pe_fld (pv 0) rfl) (pe_un un_neg pe_int) (fun _ _ => rfl)) pe_int (fun _ _ => rfl)) (pe_tup pa_nil) (nomark _))))) (pss_one (ps_ret pe_bl)) pss_nil)
    (pss_cons (ps_set (i := 2) sc_Rows_bound.nd rfl (Or.inl rfl) (pe_ix (ix_listK (K := K)) (pe_fld (pv 0) rfl) (pe_un un_neg pe_int) (fun _ _ => rfl)))
    (pss_cons (ps_set (i := 3) sc_Rows_bound.nd rfl (Or.inl rfl) (pe_cr c_read_words hr (by decide) rfl (takes_of rfl rfl rfl rfl) (pa_cons (pe_slice (sl_listK (K := K)) (pv 1) (po_some pe_int) po_none) (pa_cons (pe_callB (call_lenK (K := K)) rfl T.n_len PySem.boot_len (pa_cons (pe_ix (ix_tupK (K := K)) (pv 2) pe_int (fun _ _ => rfl)) pa_nil)) pa_nil))))
    (pss_cons (ps_asg (pe_op (op_catK (K := K)) (pe_slice (sl_tupK (K := K)) (pv 2) po_none (po_some pe_int)) (pe_tup (pa_cons (pe_op (op_catK (K := K)) (pe_ix (ix_tupK (K := K)) (pv 2) pe_int (fun _ _ => rfl)) (pe_tup (pa_cons (pv 3) pa_nil))) (pa_cons (pe_tup pa_nil) pa_nil)))) (pg_sub (pe_fld (pv 0) rfl) (pe_un un_neg pe_int) set_list))
    (pss_one (ps_ret pe_bl)))))), ?_⟩)) fun _ _ _ _ _ _ us hl => match us, hl with | [_, _], _ => rfl
  obtain ⟨a, l, wl, ws, rows, j, rfl, ⟨dx, xs, hR⟩, hwords, hok, hrows, hj, q1, q2⟩ := h
  by_cases hop : isOpen rows = true
  · obtain ⟨n, hh, bs, ms, hl⟩ := isOpen_last hop
    have hw := wide_ok hrows hl
    have hw1 : bs.length ≤ j := hw.2.1
    have hrl : ∀ {H'}, Same H H' → ∀ {z1 z2 : Option V}, Es K (tOp (rIxL K) (tFld K (tVar 0) "kept_rows") (tUn (rU fun i => .int (-i)) (tC (.int 1)))) [some (.ref a), some (.ref wl), z1, z2] H' (.tuple [wD wThing, wD n, .int hh, tsD bs, .tuple (ms.map tsD)]) :=
      fun {H'} e {z1 z2} => es_op (od_ixL (atI_m1 (rowsD_last hl))) (es_fld (i := 0) rfl (hR.same e).ins T.c_Rows T.o_Rows_kept_rows rfl (.lst (hR.same e).lst (hR.same e).dat)) es_neg1
    refine rd_if (b := !isOpen rows || !(ms.map tsD).isEmpty) (est_or (est_not (est_val (es_fld (i := 0) rfl hR.ins T.c_Rows T.o_Rows_kept_open rfl (.bl _)))) fun _ => (est_op (es_op (od_neE (lay_ms hw.1)) (es_op (od_ixT atI_4) (hrl (Same.refl H)) es_int) (es_tup esa_nil)))) (fun H3 e3 hb => ?_) (fun H3 e3 hb => ?_)
    · have e : lBound ws rows = none := by
        unfold lBound
        rw [hl]
        cases ms with
        | nil => rw [hop] at hb; cases hb
        | cons m ms => rfl
      exact (q2 e).1 H3 e3
    · obtain rfl : ms = [] := by
        cases ms with
        | nil => rfl
        | cons m ms => rw [hop] at hb; cases hb
      have e : lBound ws rows = (rdW (ws.drop 1) bs.length).map fun t => rows.dropLast ++ [.thing n hh (bs ++ [t]) []] := by
        unfold lBound
        rw [hl]
      refine rd_set (hrl e3) fun vr H4 e4 hrow => ?_
      have e34 := e3.trans e4
      refine rd_o1 (o := (rdW (ws.drop 1) bs.length).map K83.T.data) (esa_cons ((es_sl sd_list (es_var (i := 1) rfl (hwords.same e34)) eso_int eso_no).eq (congrArg PyData.list ((show cutD (wsD ws) (some 1) none = (wsD ws).drop 1 from cut_from _ 1).trans (wsD_drop ws 1)))) (esa_cons ((es_b cb_lenT (esa_cons (es_op (od_ixT atI_3) (es_var (i := 2) rfl hrow) es_int) esa_nil)).eq (by rw [ts_len])) esa_nil)) ⟨ws.drop 1, bs.length, rfl, (hok.drop 1).1, (hok.drop 1).2.1, (hok.drop 1).2.2, by omega, rfl⟩ (fun d v H5 ho e5 hv => ?_) (fun ho v H5 e5 => ?_)
      · obtain ⟨t, ht, rfl⟩ := Option.map_eq_some_iff.mp ho
        rw [ht, Option.map_some] at e
        have hrow5 := hrow.same e5
        refine rd_put (T := T) (r := .thing n hh (bs ++ [t]) []) rfl (hR.same (e34.trans e5)) hl (open_put hl) ((es_op (od_catT (by rw [cut3]; simp)) (es_sl sd_tup (es_var (i := 2) rfl hrow5) eso_no eso_int) (es_tup (esa_cons (es_op (od_catT (by simp; omega)) (es_op (od_ixT atI_3) (es_var (i := 2) rfl hrow5) es_int) (es_tup (esa_cons (es_var (i := 3) rfl hv) esa_nil))) (esa_cons (es_tup esa_nil) esa_nil)))).eq ?_) fun H6 e6 h6 => ?_
        · rw [cut3]
          show _ = PyData.tuple [wD wThing, wD n, .int hh, .tuple ((bs ++ [t]).map K83.T.data), .tuple []]
          rw [List.map_append]
          rfl
        · exact q1 _ e _ ((Mo2.of (e34.trans e5)).trans e6) h6
      · have hn : rdW (ws.drop 1) bs.length = none := by cases hx : rdW (ws.drop 1) bs.length with | none => rfl | some t => rw [hx] at ho; cases ho
        rw [hn] at e
        exact (q2 e).2 v H5 (e34.trans e5)
  · have hop : isOpen rows = false := by simpa using hop
    have e : lBound ws rows = none := by
      unfold lBound
      split
      · rename_i n hh bs hl
        exact absurd hl (not_open hop _ _ _ _)
      · rfl
    refine rd_if (b := true) ((est_or (b := false) (est_not (est_val (es_fld (i := 0) rfl hR.ins T.c_Rows T.o_Rows_kept_open rfl (.bl _)))) fun hc => by rw [hop] at hc; cases hc).eq (by rw [hop]; rfl)) (fun H3 e3 hb => (q2 e).1 H3 e3) (fun H3 e3 hb => by cases hb)
/-! arg -/
theorem cutm1 (xs : List PyData) : cutD xs none (some (-1)) = xs.dropLast := by
  unfold cutD
  rw [HT.sIx_none, Nat.sub_zero, List.drop_zero, List.dropLast_eq_take]
  congr 1
  unfold HT.sIx
  first
    | rfl
    | (simp; omega)
    | simp
abbrev N_Rows_arg : List Str := ["self", "words", "row", "last", "saying"]
theorem sc_Rows_arg : FnScope N_Rows_arg P_Rows (defScope m_Rows_arg) := ⟨rfl, rfl, rfl, by decide +kernel, rfl, by decide +kernel, by decide +kernel⟩
theorem m_arg (T : Tx w K mg) : MetR P w K mg base 219 (He.ga K "Rows") "arg" (spLine K lArg) := by
  obtain ⟨fd, F⟩ := T.d_Rows_arg
  have c_read_words := c_read_words (P := P) (base := base) T
  refine metR_of T.c_Rows T.e_Rows_arg F (F.ok sc_Rows_arg spLine_len (fun cdv A outer s H vs Q E hr h => ⟨_, (pss_cons (ps_if (PW.pt (pw_or (pt_not (pt_val (pe_fld (pv 0) rfl))) (pw_or1 (pt_cmpR (op_eqE (K := K) hr.units) (pe_ix (ix_tupK (K := K)) (pe_ix (ix_listK (K := K)) (pe_fld (pv 0) rfl) (pe_un un_neg pe_int) (fun _ _ => rfl)) pe_int (fun _ _ => rfl)) (pe_tup pa_nil) (nomark _))))) (pss_one (ps_ret pe_bl)) pss_nil)
    (pss_cons (ps_set (i := 2) sc_Rows_arg.nd rfl (Or.inl rfl) (pe_ix (ix_listK (K := K)) (pe_fld (pv 0) rfl) (pe_un un_neg pe_int) (fun _ _ => rfl)))
    (pss_cons (ps_set (i := 3) sc_Rows_arg.nd rfl (Or.inl rfl) (pe_ix (ix_tupK (K := K)) (pe_ix (ix_tupK (K := K)) (pv 2) pe_int (fun _ _ => rfl)) (pe_un un_neg pe_int) (fun _ _ => rfl)))
    (pss_cons (ps_set (i := 4) sc_Rows_arg.nd rfl (Or.inl rfl) (pe_cr c_read_words hr (by decide) rfl (takes_of rfl rfl rfl rfl) (pa_cons (pe_slice (sl_listK (K := K)) (pv 1) (po_some pe_int) po_none) (pa_cons (pe_op op_add (pe_callB (call_lenK (K := K)) rfl T.n_len PySem.boot_len (pa_cons (pe_ix (ix_tupK (K := K)) (pv 2) pe_int (fun _ _ => rfl)) pa_nil)) (pe_callB (call_lenK (K := K)) rfl T.n_len PySem.boot_len (pa_cons (pv 3) pa_nil))) pa_nil))))
    (pss_cons (ps_asg (pe_op (op_catK (K := K)) (pe_slice (sl_tupK (K := K)) (pv 2) po_none (po_some pe_int)) (pe_tup (pa_cons (pe_op (op_catK (K := K)) (pe_slice (sl_tupK (K := K)) (pe_ix (ix_tupK (K := K)) (pv 2) pe_int (fun _ _ => rfl)) po_none (po_some (pe_un un_neg pe_int))) (pe_tup (pa_cons (pe_op (op_catK (K := K)) (pv 3) (pe_tup (pa_cons (pv 4) pa_nil))) pa_nil))) pa_nil))) (pg_sub (pe_fld (pv 0) rfl) (pe_un un_neg pe_int) set_list))
    (pss_one (ps_ret pe_bl))))))), ?_⟩)) fun _ _ _ _ _ _ us hl => match us, hl with | [_, _], _ => rfl
  obtain ⟨a, l, wl, ws, rows, j, rfl, ⟨dx, xs, hR⟩, hwords, hok, hrows, hj, q1, q2⟩ := h
  by_cases hop : isOpen rows = true
  · obtain ⟨n, hh, bs, ms, hl⟩ := isOpen_last hop
    have hw := wide_ok hrows hl
    have hw1 : bs.length ≤ j := hw.2.1
    have hw2 : ms.length ≤ j := hw.2.2.1
    have hrl : ∀ {H'}, Same H H' → ∀ {z1 z2 z3 : Option V}, Es K (tOp (rIxL K) (tFld K (tVar 0) "kept_rows") (tUn (rU fun i => .int (-i)) (tC (.int 1)))) [some (.ref a), some (.ref wl), z1, z2, z3] H' (.tuple [wD wThing, wD n, .int hh, tsD bs, .tuple (ms.map tsD)]) :=
      fun {H'} e {z1 z2 z3} => es_op (od_ixL (atI_m1 (rowsD_last hl))) (es_fld (i := 0) rfl (hR.same e).ins T.c_Rows T.o_Rows_kept_rows rfl (.lst (hR.same e).lst (hR.same e).dat)) es_neg1
    refine rd_if (b := !isOpen rows || (ms.map tsD).isEmpty) (est_or (est_not (est_val (es_fld (i := 0) rfl hR.ins T.c_Rows T.o_Rows_kept_open rfl (.bl _)))) fun _ => (est_op (es_op (od_eqE (lay_ms hw.1)) (es_op (od_ixT atI_4) (hrl (Same.refl H)) es_int) (es_tup esa_nil)))) (fun H3 e3 hb => ?_) (fun H3 e3 hb => ?_)
    · have e : lArg ws rows = none := by
        unfold lArg
        rw [hl]
        cases ms with
        | nil => rfl
        | cons m ms => rw [hop] at hb; cases hb
      exact (q2 e).1 H3 e3
    · have hne : ms ≠ [] := by
        rintro rfl
        rw [hop] at hb
        cases hb
      obtain ⟨la, hla⟩ : ∃ la, ms.getLast? = some la := ⟨_, List.getLast?_eq_some_getLast hne⟩
      have hw3 : la.length ≤ j := hw.2.2.2 la (List.mem_of_getLast? hla)
      have e : lArg ws rows = (rdW (ws.drop 1) (bs.length + la.length)).map fun t => rows.dropLast ++ [.thing n hh bs (ms.dropLast ++ [la ++ [t]])] := by
        unfold lArg
        rw [hl]
        simp only
        rw [hla]
      refine rd_set (hrl e3) fun vr H4 e4 hrow => ?_
      refine rd_set (d := tsD la) (es_op (od_ixT (atI_m1 (by rw [List.getLast?_map, hla]; rfl))) (es_op (od_ixT atI_4) (es_var (i := 2) rfl hrow) es_int) es_neg1) fun vl H4b e4b hlast => ?_
      have e34 := (e3.trans e4).trans e4b
      have hrow := hrow.same e4b
      refine rd_o1 (o := (rdW (ws.drop 1) (bs.length + la.length)).map K83.T.data) (esa_cons ((es_sl sd_list (es_var (i := 1) rfl (hwords.same e34)) eso_int eso_no).eq (congrArg PyData.list ((show cutD (wsD ws) (some 1) none = (wsD ws).drop 1 from cut_from _ 1).trans (wsD_drop ws 1)))) (esa_cons ((es_op od_add (es_b cb_lenT (esa_cons (es_op (od_ixT atI_3) (es_var (i := 2) rfl hrow) es_int) esa_nil)) (es_b cb_lenT (esa_cons (es_var (i := 3) rfl hlast) esa_nil))).eq (by rw [ts_len, ts_len]; rfl)) esa_nil)) ⟨ws.drop 1, bs.length + la.length, rfl, (hok.drop 1).1, (hok.drop 1).2.1, (hok.drop 1).2.2, by omega, rfl⟩ (fun d v H5 ho e5 hv => ?_) (fun ho v H5 e5 => ?_)
      · obtain ⟨t, ht, rfl⟩ := Option.map_eq_some_iff.mp ho
        rw [ht, Option.map_some] at e
        have hrow5 := hrow.same e5
        have hlast5 := hlast.same e5
        refine rd_put (T := T) (r := .thing n hh bs (ms.dropLast ++ [la ++ [t]])) rfl (hR.same (e34.trans e5)) hl (open_put hl) ((es_op (od_catT (by rw [cut4]; simp)) (es_sl sd_tup (es_var (i := 2) rfl hrow5) eso_no eso_int) (es_tup (esa_cons (es_op (od_catT (by rw [cutm1]; simp; omega)) (es_sl sd_tup (es_op (od_ixT atI_4) (es_var (i := 2) rfl hrow5) es_int) eso_no (eso_some (K := K) es_neg1)) (es_tup (esa_cons (es_op (od_catT (by simp; omega)) (es_var (i := 3) rfl hlast5) (es_tup (esa_cons (es_var (i := 4) rfl hv) esa_nil))) esa_nil))) esa_nil))).eq ?_) fun H6 e6 h6 => ?_
        · rw [cut4, cutm1]
          show _ = PyData.tuple [wD wThing, wD n, .int hh, tsD bs, .tuple ((ms.dropLast ++ [la ++ [t]]).map tsD)]
          rw [List.map_append, List.map_dropLast, show [la ++ [t]].map tsD = [.tuple (la.map K83.T.data ++ [t.data])] by simp [tsD]]
          rfl
        · exact q1 _ e _ ((Mo2.of (e34.trans e5)).trans e6) h6
      · have hn : rdW (ws.drop 1) (bs.length + la.length) = none := by cases hx : rdW (ws.drop 1) (bs.length + la.length) with | none => rfl | some t => rw [hx] at ho; cases ho
        rw [hn] at e
        exact (q2 e).2 v H5 (e34.trans e5)
  · have hop : isOpen rows = false := by simpa using hop
    have e : lArg ws rows = none := by
      unfold lArg
      split
      · rename_i n hh bs ms hl
        exact absurd hl (not_open hop _ _ _ _)
      · rfl
    refine rd_if (b := true) ((est_or (b := false) (est_not (est_val (es_fld (i := 0) rfl hR.ins T.c_Rows T.o_Rows_kept_open rfl (.bl _)))) fun hc => by rw [hop] at hc; cases hc).eq (by rw [hop]; rfl)) (fun H3 e3 hb => (q2 e).1 H3 e3) (fun H3 e3 hb => by cases hb)
/-! taken -/
abbrev N_Rows_taken : List Str := ["self", "words", "word"]
theorem sc_Rows_taken : FnScope N_Rows_taken P_Rows (defScope m_Rows_taken) := ⟨rfl, rfl, rfl, by decide +kernel, rfl, by decide +kernel, by decide +kernel⟩
/-- o.m(e) of a line's word -/
theorem rd_mt {f : List Wd → List Row → Option (List Row)} {σ : L2.St} {H : Hp} {a wl : Addr} {m : Str} {E : L2.St → XK} {Q : VK} (h0 : σ[0]? = some (some (.ref a))) (h1 : σ[1]? = some (some (.ref wl))) {dx : Addr} {fs : List (Str × V)} (ha : H a = some (.ins (He.ga K "Rows") dx fs)) (hm : fs.lookup m = none)
    (h : spLine K f [.ref a, .ref wl] H Q (E σ)) : tMethX (He.ga K "Rows") m (spLine K f) E (tVar 0) (tCons (tVar 1) tNil) σ H Q := ⟨_, h0, a, dx, fs, rfl, ha, hm, _, h1, h⟩
theorem m_taken (T : Tx w K mg) : MetR P w K mg base 220 (He.ga K "Rows") "taken" (spLine K lineF) := by
  obtain ⟨fd, F⟩ := T.d_Rows_taken
  have c_word_at := c_word_at (P := P) (base := base) T
  have m_thing := m_thing (P := P) (base := base) T
  have m_bound := m_bound (P := P) (base := base) T
  have m_maker := m_maker (P := P) (base := base) T
  have m_arg := m_arg (P := P) (base := base) T
  have m_mean := m_mean (P := P) (base := base) T
  have m_hold := m_hold (P := P) (base := base) T
  refine metR_of T.c_Rows T.e_Rows_taken F (F.ok sc_Rows_taken spLine_len (fun cdv A outer s H vs Q E hr h => ⟨_, (pss_cons (ps_set (i := 2) sc_Rows_taken.nd rfl (Or.inl rfl) (pe_c c_word_at hr (by decide) rfl (pa_cons (pv 1) (pa_cons pe_int pa_nil))))
    (pss_cons (ps_if (pt_cmpR op_eq (pv 2) pe_str (nomark _)) (pss_one (ps_ret (pe_mtr m_thing hr (by decide) (takes_of rfl rfl rfl rfl) (pv 0) (pa_cons (pv 1) pa_nil)))) pss_nil)
    (pss_cons (ps_if (pt_cmpR op_eq (pv 2) pe_str (nomark _)) (pss_one (ps_ret (pe_mtr m_bound hr (by decide) (takes_of rfl rfl rfl rfl) (pv 0) (pa_cons (pv 1) pa_nil)))) pss_nil)
    (pss_cons (ps_if (pt_cmpR op_eq (pv 2) pe_str (nomark _)) (pss_one (ps_ret (pe_mtr m_maker hr (by decide) (takes_of rfl rfl rfl rfl) (pv 0) (pa_cons (pv 1) pa_nil)))) pss_nil)
    (pss_cons (ps_if (pt_cmpR op_eq (pv 2) pe_str (nomark _)) (pss_one (ps_ret (pe_mtr m_arg hr (by decide) (takes_of rfl rfl rfl rfl) (pv 0) (pa_cons (pv 1) pa_nil)))) pss_nil)
    (pss_cons (ps_if (pt_cmpR op_eq (pv 2) pe_str (nomark _)) (pss_one (ps_ret (pe_mtr m_mean hr (by decide) (takes_of rfl rfl rfl rfl) (pv 0) (pa_cons (pv 1) pa_nil)))) pss_nil)
    (pss_one (ps_ret (pe_and (pe_cmpR op_eq (pv 2) pe_str (nomark _)) (pe_one (pe_mtr m_hold hr (by decide) (takes_of rfl rfl rfl rfl) (pv 0) (pa_cons (pv 1) pa_nil)))))))))))), ?_⟩)) fun _ _ _ _ _ _ us hl => match us, hl with | [_, _], _ => rfl
  obtain ⟨a, l, wl, ws, rows, j, rfl, ⟨dx, xs, hR⟩, hwords, hok, hrows, hj, q1, q2⟩ := h
  refine rd_set (es_c (esa_cons (es_var rfl hwords) (esa_cons es_int esa_nil)) ⟨ws, 0, rfl, rfl⟩) fun vw H2 e2 hword => ?_
  rw [List.drop_zero] at hword
  have go : ∀ {f : List Wd → List Row → Option (List Row)} {H3 : Hp}, Same H H3 → lineF ws rows = f ws rows → spLine K f [.ref a, .ref wl] H3 Q E := fun {f H3} e3 ef =>
    ⟨a, l, wl, ws, rows, j, rfl, ⟨dx, xs, hR.same e3⟩, hwords.same e3, hok, hrows, hj, fun rows' hf H4 m4 r4 => q1 rows' (ef.trans hf) H4 ((Mo2.of e3).trans m4) r4, fun hf => ⟨fun H4 e4 => (q2 (ef.trans hf)).1 H4 (e3.trans e4), fun v H4 e4 => (q2 (ef.trans hf)).2 v H4 (e3.trans e4)⟩⟩
  have fin : ∀ {H3 : Hp}, Same H H3 → H3 a = some (.ins (He.ga K "Rows") dx (fsR l (isOpen rows))) := fun e3 => (hR.same e3).ins
  refine rd_if (est_op (es_op od_eqW (es_var rfl hword) (es_w wThing))) (fun H3 e3 hb => ?_) (fun H3 e3 hb1 => ?_)
  · have hb : hd ws = wThing := by simpa using hb
    exact rd_mt (f := lThing) rfl rfl (fin (e2.trans e3)) rfl (go (e2.trans e3) (by unfold lineF; rw [if_pos hb]))
  have n1 : hd ws ≠ wThing := by simpa using hb1
  have hword := hword.same e3
  have e2 := e2.trans e3
  refine rd_if (est_op (es_op od_eqW (es_var rfl hword) (es_w wBound))) (fun H3 e3 hb => ?_) (fun H3 e3 hb1 => ?_)
  · have hb : hd ws = wBound := by simpa using hb
    exact rd_mt (f := lBound) rfl rfl (fin (e2.trans e3)) rfl (go (e2.trans e3) (by unfold lineF; rw [if_neg n1, if_pos hb]))
  have n2 : hd ws ≠ wBound := by simpa using hb1
  have hword := hword.same e3
  have e2 := e2.trans e3
  refine rd_if (est_op (es_op od_eqW (es_var rfl hword) (es_w wMaker))) (fun H3 e3 hb => ?_) (fun H3 e3 hb1 => ?_)
  · have hb : hd ws = wMaker := by simpa using hb
    exact rd_mt (f := lMaker) rfl rfl (fin (e2.trans e3)) rfl (go (e2.trans e3) (by unfold lineF; rw [if_neg n1, if_neg n2, if_pos hb]))
  have n3 : hd ws ≠ wMaker := by simpa using hb1
  have hword := hword.same e3
  have e2 := e2.trans e3
  refine rd_if (est_op (es_op od_eqW (es_var rfl hword) (es_w wArg))) (fun H3 e3 hb => ?_) (fun H3 e3 hb1 => ?_)
  · have hb : hd ws = wArg := by simpa using hb
    exact rd_mt (f := lArg) rfl rfl (fin (e2.trans e3)) rfl (go (e2.trans e3) (by unfold lineF; rw [if_neg n1, if_neg n2, if_neg n3, if_pos hb]))
  have n4 : hd ws ≠ wArg := by simpa using hb1
  have hword := hword.same e3
  have e2 := e2.trans e3
  refine rd_if (est_op (es_op od_eqW (es_var rfl hword) (es_w wMean))) (fun H3 e3 hb => ?_) (fun H3 e3 hb1 => ?_)
  · have hb : hd ws = wMean := by simpa using hb
    exact rd_mt (f := lMean) rfl rfl (fin (e2.trans e3)) rfl (go (e2.trans e3) (by unfold lineF; rw [if_neg n1, if_neg n2, if_neg n3, if_neg n4, if_pos hb]))
  have n5 : hd ws ≠ wMean := by simpa using hb1
  have hword := hword.same e3
  have e2 := e2.trans e3
  refine (es_op od_eqW (es_var (K := K) (i := 2) rfl hword) (es_w wHold)).at fun v H3 e3 hv => ?_
  cases hv
  refine ⟨_, rfl, ?_⟩
  by_cases hb : hd ws = wHold
  · rw [decide_eq_true hb]
    exact iteT (rd_mt (f := lHold) rfl rfl (fin (e2.trans e3)) rfl (go (e2.trans e3) (by unfold lineF; rw [if_neg n1, if_neg n2, if_neg n3, if_neg n4, if_neg n5, if_pos hb])))
  · rw [decide_eq_false hb]
    refine iteF ?_
    have e : lineF ws rows = none := by unfold lineF; rw [if_neg n1, if_neg n2, if_neg n3, if_neg n4, if_neg n5, if_neg hb]
    exact (q2 e).1 H3 (e2.trans e3)
end
end K83
namespace K83
open PySem PySem.Spec PyProof.Rows L2
/-! ### the words of a line -/
def flush (cur : Wd) : List Wd := if cur = [] then [] else [cur]
def tk : Wd → List Nat → List Wd
  | cur, [] => flush cur
  | cur, c :: r => if c = 32 then flush cur ++ tk [] r else if c = 40 ∨ c = 41 then flush cur ++ [c] :: tk [] r else tk (cur ++ [c]) r
def toks (l : List Nat) : List Wd := tk [] l
def rep1 (c : Nat) (l : List Nat) : List Nat := l.flatMap fun x => if x = c then [32, c, 32] else [x]
theorem replL_one (c : Nat) : ∀ l : List Nat, StrLaws.replL [c] [32, c, 32] l = rep1 c l
  | [] => StrLaws.replL_nil
  | x :: r => by
    by_cases h : x = c
    · rw [StrLaws.replL_hit (by simp) (by simp [h])]
      show _ ++ StrLaws.replL _ _ r = _
      rw [replL_one c r]
      simp [rep1, h]
    · rw [StrLaws.replL_miss (by simpa using h), replL_one c r]
      simp [rep1, h]
theorem repl_S (c : Nat) (w : List Nat) : Txt.replace (S w) (S [c]) (S [32, c, 32]) = S (rep1 c w) := by
  have h := StrLaws.replace_list (x := S w) (y := S [c]) (z := S [32, c, 32]) (by rw [S_length]; simp)
  have h2 : (Txt.replace (S w) (S [c]) (S [32, c, 32])).cps.toList = rep1 c w := by rw [h]; exact replL_one c w
  rw [← SX.S_tl (Txt.replace (S w) (S [c]) (S [32, c, 32]))]
  rw [h2]
theorem rep1_len (c : Nat) : ∀ l : List Nat, (rep1 c l).length ≤ 3 * l.length
  | [] => Nat.le_refl _
  | x :: r => by
    have ih := rep1_len c r
    by_cases h : x = c
    · rw [show rep1 c (x :: r) = 32 :: c :: 32 :: rep1 c r by simp [rep1, h]]
      simp only [List.length_cons]
      omega
    · rw [show rep1 c (x :: r) = x :: rep1 c r by simp [rep1, h]]
      simp only [List.length_cons]
      omega
theorem pre1 (c : Nat) (r : List Nat) (d : Nat) : TL.pre [d] (c :: r) = decide (c = d) := by
  simp only [TL.pre]
  by_cases h : c = d
  · subst h; simp
  · simp [h]
    try (intro z; exact h z.symm)
theorem spl_32 (acc r : List Nat) : TL.spl [32] 0 acc (32 :: r) = acc :: TL.spl [32] 0 [] r := TL.spl_hit (by rw [pre1]; rfl)
theorem spl_no {c : Nat} (acc r : List Nat) (h : c ≠ 32) : TL.spl [32] 0 acc (c :: r) = TL.spl [32] 0 (acc ++ [c]) r := TL.spl_miss (by rw [pre1]; exact decide_eq_false h)
theorem filt (cur : Wd) (l : List Wd) : (cur :: l).filter (fun w => !decide (w = [])) = flush cur ++ l.filter (fun w => !decide (w = [])) := by
  unfold flush
  by_cases h : cur = []
  · subst h; simp
  · rw [List.filter_cons_of_pos (by simpa using h), if_neg h]; rfl
theorem toks_split : ∀ (l : List Nat) (acc : Wd), (TL.spl [32] 0 acc (rep1 41 (rep1 40 l))).filter (fun w => !decide (w = [])) = tk acc l
  | [], acc => by
    show (TL.spl [32] 0 acc []).filter _ = flush acc
    rw [TL.spl_nil, filt]
    simp
  | c :: r, acc => by
    have ih := toks_split r
    unfold tk
    by_cases h1 : c = 40
    · subst h1
      rw [if_neg (by decide), if_pos (by decide)]
      show (TL.spl [32] 0 acc (32 :: 40 :: 32 :: rep1 41 (rep1 40 r))).filter _ = _
      rw [spl_32, filt, spl_no _ _ (by decide), spl_32, filt, ih]
      rfl
    · by_cases h2 : c = 41
      · subst h2
        rw [if_neg (by decide), if_pos (by decide)]
        show (TL.spl [32] 0 acc (32 :: 41 :: 32 :: rep1 41 (rep1 40 r))).filter _ = _
        rw [spl_32, filt, spl_no _ _ (by decide), spl_32, filt, ih]
        rfl
      · have e : rep1 41 (rep1 40 (c :: r)) = c :: rep1 41 (rep1 40 r) := by simp [rep1, h1, h2]
        rw [e]
        by_cases h3 : c = 32
        · subst h3
          rw [if_pos rfl, spl_32, filt, ih]
        · rw [if_neg h3, if_neg (by simp [h1, h2]), spl_no _ _ h3, ih]
theorem flush_le (cur : Wd) : (flush cur).length ≤ 1 := by unfold flush; split <;> simp
theorem tk_len : ∀ (l : List Nat) (cur : Wd), (tk cur l).length ≤ (flush cur).length + l.length
  | [], cur => Nat.le_refl _
  | c :: r, cur => by
    have h1 := tk_len r []
    have h2 := tk_len r (cur ++ [c])
    have h3 := flush_le (cur ++ [c])
    have h4 : (flush []).length = 0 := rfl
    unfold tk
    split
    · rw [List.length_append, List.length_cons]; omega
    · split
      · rw [List.length_append, List.length_cons, List.length_cons]; omega
      · rw [List.length_cons]; omega
theorem toks_len (l : List Nat) : (toks l).length ≤ l.length := by
  have := tk_len l []
  have h4 : (flush []).length = 0 := rfl
  unfold toks
  omega
theorem tk_mem : ∀ (l : List Nat) (cur : Wd), ∀ w ∈ tk cur l, w.length ≤ cur.length + l.length
  | [], cur => fun w hw => by
    unfold tk flush at hw
    split at hw
    · cases hw
    · rw [List.mem_singleton.mp hw]; omega
  | c :: r, cur => fun w hw => by
    have fl : ∀ w ∈ flush cur, w.length ≤ cur.length := fun w hw => by
      unfold flush at hw
      split at hw
      · cases hw
      · rw [List.mem_singleton.mp hw]; exact Nat.le_refl _
    rw [List.length_cons]
    unfold tk at hw
    split at hw
    · rcases List.mem_append.mp hw with h | h
      · have := fl w h; omega
      · have := tk_mem r [] w h; simp at this; omega
    · split at hw
      · rcases List.mem_append.mp hw with h | h
        · have := fl w h; omega
        · rcases List.mem_cons.mp h with h | h
          · rw [h]; simp; omega
          · have := tk_mem r [] w h; simp at this; omega
      · have := tk_mem r _ w hw
        rw [List.length_append] at this
        simp at this
        omega
theorem toks_mem {l : List Nat} {w : Wd} (h : w ∈ toks l) : w.length ≤ l.length := by
  have := tk_mem l [] w h
  simpa using this
end K83
namespace K83
open PySem PySem.Spec PyProof.Rows L2
open C8 (Cal pe_c CalAt)
/-- FunD.ok where a token is wanted -/
theorem okT {P : Program} {w : World} {K : PySem.W.Frag} {mg : Str → Option Value} {base : Heap} {x qual : Str} {params : Arguments} {body : List Stmt} {scope : Scope} {dvs : List V} {kws : List (Str × V)} {f : Addr} {fd : FuncData} {CX : CXT} {N ps : List Str} {k : Nat} {sp : Sp} (F : FunD K x qual params body scope dvs kws f fd) (S : FnScope N ps scope)
    (hnc : ∀ y ∈ scope.names, y.2 ≠ .cell) (hps : 1 ≤ ps.length) (len : ∀ vs H Q E, sp vs H Q E → vs.length = ps.length)
    (hbody : ∀ (cdv : Value) (A : Around) (outer : List Env) (s : Shared) (H : Hp) (vs : List V) (Q : VK) (E : XK), Room k (A.deeper (envOfC qual scope s.heap.objs.size f cdv)) → sp vs H Q E →
      ∃ t, PSsT (cxOf CX P w K mg base N qual scope f cdv A outer s H E) body t ∧ t { nx := fun _ H' => Q .non H', rt := Q } (start N vs) H) : FnOk P w K mg base CX (k + 1) f fd ps sp := by
  obtain ⟨oc, od, dV, kV, doc, pm, an, cdv, ct, osl, rfl, lk, hcd, _, _⟩ := F.ex
  exact fn_ofT lk hcd S hnc hps len fun A outer s H vs Q E hr hsp => hbody cdv A outer s H vs Q E hr hsp
theorem pst_set {X : Cx} {i : Nat} {x : Str} {e : Expr} {te : TE} {pos pos' : Pos} (hN : X.N.Nodup) (hi : X.N[i]? = some x) (hx : Loc X.env.scope x) (he : PET X e te) (hs : swapsWith e (some (.Name x pos')) pos.line X.env = pure false := by rfl) (hf : X.fn x = true ∨ X.env.scope.names.lookup x = some .local := by first | exact .inl rfl | exact .inr rfl | assumption) :
    PST X (.Assign [.Name x pos'] e pos) (tAsg te (gName i)) := by
  intro pins s σ H D h0 I h
  refine wpAny_Assign_Name (thn (he pins s σ H _ h0 I h) fun v s1 ⟨y, H1, I1, r1, q1⟩ => ?_) hs
  exact store_ok I1 hN hi hx r1 (fun s2 I2 => ⟨_, H1, I2, q1⟩) hf
def rSpl : V → List V → Hp → VK → Prop := fun x xs H Q => ∃ a b, x = .str a ∧ xs = [.str b] ∧ (b.length == 0) = false ∧ a.length + 2 ≤ sizeLine ∧ rNewStrs (Txt.split a b) H Q
theorem mt_spl {X : Cx} : MtR X "str.split" rSpl := mt_split
section
variable {K : PySem.W.Frag} {σ : L2.St} {H : Hp} {t : TE}
theorem es_rep {w : Wd} {c : Nat} {y z : Str} (h : Es K t σ H (wD w)) (hl : w.length ≤ 100000) (hy : y = S [c] := by decide +kernel) (hz : z = S [32, c, 32] := by decide +kernel) : Es K (CwR.tReplC t y z) σ H (wD (rep1 c w)) := fun H1 e1 Q q => h H1 e1 _ fun v H2 e2 hv => by
  cases hv
  subst hy hz
  refine ⟨_, rfl, ?_, ?_⟩
  · rw [S_length, S_length]
    show w.length + (w.length + 1) * 3 ≤ 16777216
    omega
  · rw [repl_S]
    exact q _ _ e2 (.str _)
theorem md_spl {w : Wd} {c : Nat} (hl : w.length ≤ 99990) (hc : c < 256) : MtD K rSpl (wD w) [wD [c]] (.list (wsD (TL.spl [c] 0 [] w))) := fun H x vs hx hvs Q q => by
  obtain ⟨v, rfl, hv⟩ := hvs.one_inv
  cases hx
  cases hv
  refine ⟨_, _, rfl, rfl, by rw [S_length]; rfl, by rw [S_length]; exact Nat.le_trans (by omega : w.length + 2 ≤ 100000) (by decide), fun p hp => ?_⟩
  rw [SX.split_S (by simp) (by simpa using hc)]
  refine q _ _ (same_new hp _) (.lst upd_same ?_)
  rw [List.map_map]
  exact (dt_ws _).same (same_new hp _)
end
section
variable {P : Program} {w : World} {K : PySem.W.Frag} {mg : Str → Option Value} {base : Heap}
def RWsOf : List PyData → PyData → Prop := fun ds d => ∃ l : Wd, ds = [wD l] ∧ l.length ≤ 4000 ∧ d = .list (wsD (toks l))
abbrev N_words_of : List Str := ["text", "parted", "word"]
abbrev P_words_of : List Str := ["text"]
theorem sc_words_of : FnScope N_words_of P_words_of (defScope s_words_of) := ⟨rfl, rfl, rfl, by decide +kernel, rfl, by decide +kernel, by decide +kernel⟩
def wdOf : PyData → Wd
  | .str x => x.cps.toList
  | _ => []
theorem wdOf_w (w : Wd) : wdOf (wD w) = w := rfl
theorem filt_ws (ws : List Wd) : ((wsD ws).filter (fun d => !decide (wdOf d = []))).map (fun d => d) = wsD (ws.filter fun w => !decide (w = [])) := by
  rw [List.map_id']
  unfold wsD
  rw [List.filter_map]
  rfl
theorem spl_len (S : List Nat) : ∀ (l : List Nat) (k : Nat) (acc : List Nat), (TL.spl S k acc l).length ≤ l.length + 1
  | [], k, acc => by rw [TL.spl_nil]; exact Nat.le_refl _
  | c :: r, 0, acc => by
    by_cases h : TL.pre S (c :: r) = true
    · rw [TL.spl_hit h]
      have := spl_len S r (S.length - 1) []
      simp only [List.length_cons]
      omega
    · rw [TL.spl_miss (by simpa using h)]
      have := spl_len S r 0 (acc ++ [c])
      simp only [List.length_cons]
      omega
  | c :: r, k + 1, acc => by
    have := spl_len S r k acc
    simp only [List.length_cons]
    have e : TL.spl S (k + 1) acc (c :: r) = TL.spl S k acc r := by rw [TL.spl_pass, List.drop_succ_cons, ← TL.spl_pass]
    rw [e]
    omega
theorem c_words_of (T : Tx w K mg) : Cal P w K mg base 1 "words_of" (spD K RWsOf) [] := by
  obtain ⟨fd, F⟩ := T.d_words_of
  refine cal_of F (okT F sc_words_of (by decide +kernel) (by decide) (spD_len fun ds d h => by obtain ⟨_, rfl, _⟩ := h; rfl) (fun cdv A outer s H vs Q E hr h => ⟨_, psst_cons (pst_set (i := 1) sc_words_of.nd rfl (Or.inl rfl) (CwR.pet_replT (CwR.pet_replC (pv 0))))
    (PSsT.of (PSs.nox (pss_one (ps_ret (pe_lc (own := [("word", 2)]) (g := (gName 2)) (by rfl) sc_words_of.nd (pi_list (pe_m1 PySem.F.slot_str_split PySem.F.type_str_split mt_spl (pv 1) pe_str)) (blkOk_by (N := N_words_of) (sc := defScope s_words_of) (by decide +kernel)) (fun _ _ _ _ _ => (pg_name (i := 2) sc_words_of.nd rfl (Or.inl rfl))) (fun _ _ _ _ _ => (pts_one (pt_cmpR op_ne (pv 2) pe_str (nomark _)))) (fun _ _ _ _ _ => (pv 2))))))), ?_⟩)) T.g_words_of
    fun _ _ _ _ _ _ us hl => match us, hl with | [_], _ => rfl
  obtain ⟨ds, d, hvs, ⟨l, rfl, hl, rfl⟩, q⟩ := h
  obtain ⟨v, rfl, htext⟩ := hvs.one_inv
  have l1 := rep1_len 40 l
  have l2 := rep1_len 41 (rep1 40 l)
  refine rd_set (es_rep (c := 41) (es_rep (c := 40) (es_var rfl htext) (by omega)) (by omega)) fun vp H2 e2 hp => ?_
  have l3 := spl_len [32] (rep1 41 (rep1 40 l)) 0 []
  refine rd_ret (d := .list (wsD (toks l))) ((es_lc (p := fun d => !decide (wdOf d = [])) (f := fun d => d) (esi_list (es_m1 (md_spl (by omega) (by decide)) (es_var rfl hp) (es_w [32]))) (fun _ => rfl) (by rw [wsD_len]; omega) (fun d hd _ => ?_) fun d hd v H3 e3 hv => ?_).eq ?_) fun v H3 e3 hv => q v H3 (e2.trans e3) hv
  · obtain ⟨u, _, rfl⟩ := List.mem_map.mp hd
    rfl
  · obtain ⟨u, _, rfl⟩ := List.mem_map.mp hd
    exact ⟨est_op (es_op od_neW (es_var (i := 2) rfl hv) (es_w [])), fun _ => es_var (i := 2) rfl hv⟩
  · rw [filt_ws, toks_split]
    rfl
end
end K83
namespace K83
open PySem PySem.Spec PyProof.Rows L2
open C8 (Cal pe_c CalAt)
/-! ### a list beside the empty one; a walk over a text -/
def rEqEL (K : PySem.W.Frag) : R2 := fun x y H Q => ∃ ds, Dp K H x (.list ds) ∧ Dp K H y (.list []) ∧ PyData.canLay0 (.list ds) = true ∧ Q (.bl ds.isEmpty) H
def rNeEL (K : PySem.W.Frag) : R2 := fun x y H Q => ∃ ds, Dp K H x (.list ds) ∧ Dp K H y (.list []) ∧ PyData.canLay0 (.list ds) = true ∧ Q (.bl (!ds.isEmpty)) H
theorem eqv_eL (ds : List PyData) : PyData.eqv (.list ds) (.list []) = ds.isEmpty := by
  cases ds <;> simp [PyData.eqv, PyData.eqvAll]
theorem dep_eL (ds : List PyData) {n : Nat} (h : n + 64 < cLine) : n + min (PyData.list ds).depth (PyData.list []).depth < cLine := by
  have h1 : (PyData.list []).depth ≤ 64 := by decide
  have h2 : min (PyData.list ds).depth (PyData.list []).depth ≤ (PyData.list []).depth := Nat.min_le_right _ _
  omega
theorem op_eqEL {X : Cx} {K : PySem.W.Frag} (hu : X.A.units + 64 < cLine) (hK : X.K = K := by rfl) : OpR X (compareOp .Eq) (rEqEL K) := by
  subst hK
  intro pins s σ H x y v u Q I rx ry h
  obtain ⟨ds, hd, he, sd, q⟩ := h
  obtain ⟨as, r1⟩ := Dp.reads I _ x v hd rx
  obtain ⟨bs, r2⟩ := Dp.reads I _ y u he ry
  exact SeqAt.compareEq_reads r1 r2 sd (by decide) (dep_eL ds hu) ⟨.bl _, H, I, rfl, by rw [eqv_eL]; exact q⟩
theorem op_neEL {X : Cx} {K : PySem.W.Frag} (hu : X.A.units + 64 < cLine) (hK : X.K = K := by rfl) : OpR X (compareOp .NotEq) (rNeEL K) := by
  subst hK
  intro pins s σ H x y v u Q I rx ry h
  obtain ⟨ds, hd, he, sd, q⟩ := h
  obtain ⟨as, r1⟩ := Dp.reads I _ x v hd rx
  obtain ⟨bs, r2⟩ := Dp.reads I _ y u he ry
  exact SeqAt.compareNe_reads r1 r2 sd (by decide) (dep_eL ds hu) ⟨.bl _, H, I, rfl, by rw [eqv_eL]; exact q⟩
theorem od_eqEL {K : PySem.W.Frag} {ds : List PyData} (h : PyData.canLay0 (.list ds) = true) : OpD K (rEqEL K) (.list ds) (.list []) (.bool ds.isEmpty) := fun H x y hx hy Q q => ⟨ds, hx.dp, hy.dp, h, q _ _ (Same.refl H) (.bl _)⟩
theorem od_neEL {K : PySem.W.Frag} {ds : List PyData} (h : PyData.canLay0 (.list ds) = true) : OpD K (rNeEL K) (.list ds) (.list []) (.bool (!ds.isEmpty)) := fun H x y hx hy Q q => ⟨ds, hx.dp, hy.dp, h, q _ _ (Same.refl H) (.bl _)⟩
def Cp (w : Wd) : Prop := ∀ c ∈ w, c < 0x110000
theorem lay_ws : ∀ ws : List Wd, (∀ w ∈ ws, Cp w) → PyData.canLayAll0 (wsD ws) = true
  | [], _ => rfl
  | w :: ws, h => by
    have := lay_ws ws fun u hu => h u (List.mem_cons_of_mem _ hu)
    simp only [wsD, List.map_cons, PyData.canLayAll0] at this ⊢
    rw [this, lay_w (h w List.mem_cons_self)]
    rfl
theorem sg_ws (w : Wd) : sgD w = wsD (w.map fun c => [c]) := by
  unfold sgD wsD
  rw [List.map_map]
  rfl
theorem sg_filter (w : Wd) (p : Nat → Bool) : ((sgD w).filter (fun d => p (sgn d))).map (fun d => d) = sgD (w.filter p) := by
  rw [List.map_id']
  unfold sgD
  rw [List.filter_map]
  rfl
theorem sg_empty (w : Wd) : (sgD w).isEmpty = w.isEmpty := by cases w <;> rfl
theorem lay_sg {w : Wd} (h : Cp w) : PyData.canLay0 (.list (sgD w)) = true := by
  rw [sg_ws]
  show PyData.canLayAll0 _ = true
  refine lay_ws _ fun u hu => ?_
  obtain ⟨c, hc, rfl⟩ := List.mem_map.mp hu
  intro d hd
  rw [List.mem_singleton.mp hd]
  exact h c hc
theorem filter_all (w : Wd) (p : Nat → Bool) : (w.filter fun c => !p c).isEmpty = w.all p := by
  induction w with
  | nil => rfl
  | cons c r ih =>
    rw [List.all_cons]
    cases h : p c with
    | true => rw [List.filter_cons_of_neg (by simp [h]), ih]; rfl
    | false => rw [List.filter_cons_of_pos (by simp [h])]; rfl
section
variable {K : PySem.W.Frag} {σ : L2.St} {H : Hp} {te : TE} {w : Wd} {k : Nat} {tb : TS} {D : L2.Ends}
theorem rd_forS (h : Es K te σ H (wD w)) (Pv : Nat → L2.St → Hp → Prop) (h0 : ∀ H2, Same H H2 → Pv 0 σ H2)
    (step : ∀ i c σ' H', w[i]? = some c → Pv i σ' H' → tb { D with nx := Pv (i + 1), ct := Pv (i + 1), bk := D.nx } (σ'.set k (some (wV [c]))) H') (hd : ∀ σ' H', Pv w.length σ' H' → D.nx σ' H') : tFor (iStr te) (gName k) tb D σ H := h.at fun v H2 e2 hv => by
  cases hv
  have ws : Walk (Its (S w)) (S w).cps.size (fun _ => True) (fun i H v H' => H' = H ∧ ∃ c, (S w).cps[i]? = some c ∧ v = .str ⟨#[c]⟩) := walk_str
  have e : (S w).cps.size = w.length := S_length w
  rw [e] at ws
  refine ⟨_, rfl, for_it ws Pv (h0 H2 e2) (fun _ _ _ _ _ => trivial) (fun i x σ' H3 H4 hi p y => ?_) hd⟩
  obtain ⟨rfl, c, hc, rfl⟩ := y
  exact step i c σ' _ (by simpa [S, SX.S] using hc) p
end
section
variable {P : Program} {w : World} {K : PySem.W.Frag} {mg : Str → Option Value} {base : Heap}
/-! ### _law_figures, _law_is_name -/
def RLFig : List PyData → PyData → Prop := fun ds d => ∃ (w : Wd) (m : Nat), ds = [wD w, .int m] ∧ w.length ≤ 4000 ∧ m ≤ 500 ∧ Cp w ∧ d = aD (figs m w)
abbrev N_law_figures : List Str := ["text", "most", "sign"]
abbrev P_law_figures : List Str := ["text", "most"]
theorem sc_law_figures : FnScope N_law_figures P_law_figures (defScope s_law_figures) := ⟨rfl, rfl, rfl, by decide +kernel, rfl, by decide +kernel, by decide +kernel⟩
theorem Cp.filter {w : Wd} (h : Cp w) (p : Nat → Bool) : Cp (w.filter p) := fun c hc => h c (List.mem_filter.mp hc).1
theorem c_law_figures (T : Tx w K mg) : Cal P w K mg base 1 "_law_figures" (spD K RLFig) [] := by
  obtain ⟨fd, F⟩ := T.d_law_figures
  refine cal_of F (F.ok sc_law_figures (spD_len fun ds d h => by obtain ⟨_, _, rfl, _⟩ := h; rfl) (fun cdv A outer s H vs Q E hr h => ⟨_, PSs.nox (pss_cons (ps_if (PW.pt (pw_or (pt_not (pt_chain op_le op_le pe_int (pe_callB (call_lenK (K := K)) rfl T.n_len PySem.boot_len (pa_cons (pv 0) pa_nil)) (pv 1))) (pw_or1 (pt_cmpR (op_neEL (K := K) hr.units) (pe_lc (own := [("sign", 2)]) (g := (gName 2)) (by rfl) sc_law_figures.nd (pi_str (pv 0)) (blkOk_by (N := N_law_figures) (sc := defScope s_law_figures) (by decide +kernel)) (fun _ _ _ _ _ => (pg_name (i := 2) sc_law_figures.nd rfl (Or.inl rfl))) (fun _ _ _ _ _ => (pts_one (pt_cmpR op_notInS (pv 2) pe_str (by rfl)))) (fun _ _ _ _ _ => (pv 2))) (pe_lst pa_nil) (nomark _))))) (pss_one (ps_ret pe_non)) pss_nil)
    (pss_one (ps_ret (pe_ifExp (PW.pt (pw_and (pt_cmpR op_ne (pv 0) pe_str (nomark _)) (pw_and1 (pt_cmpR op_eq (pe_ix ix_str (pv 0) pe_int (fun _ _ => rfl)) pe_str (nomark _))))) pe_non (pe_callTy call_intS rfl T.n_int b_int (pa_cons (pv 0) pa_nil)))))), ?_⟩)) T.g_law_figures
    fun _ _ _ _ _ _ us hl => match us, hl with | [_, _], _ => rfl
  obtain ⟨ds, d, hvs, ⟨w', m, rfl, hl, hm, hcp, rfl⟩, q⟩ := h
  cases hvs with
  | cons htext hvs =>
  obtain ⟨v2, rfl, hmost⟩ := hvs.one_inv
  refine rd_if (b := !(decide (1 ≤ w'.length) && decide (w'.length ≤ m)) || !(w'.all isDig)) (est_or ((est_not (est_op (es_chain od_cmp od_cmp es_int (es_b (cb_lenW (by omega)) (esa_cons (es_var rfl htext) esa_nil)) (es_var rfl hmost)))).eq (by congr 2 <;> (apply decide_eq_decide.mpr; omega))) fun _ => ((est_op (es_op (od_neEL (lay_sg (hcp.filter fun c => !isDig c))) ((es_lc (p := fun d => !isDig (sgn d)) (f := fun d => d) (esi_str (es_var rfl htext)) (fun _ => rfl) (by rw [sg_len]; omega) (fun d hd _ => ?_) fun d hd v H3 e3 hv => ?_).eq (congrArg PyData.list (sg_filter w' fun c => !isDig c))) (es_lst esa_nil))).eq (by rw [sg_empty, filter_all]))) (fun H2 e2 hb => ?_) (fun H2 e2 hb => ?_)
  · obtain ⟨c, _, rfl⟩ := sg_mem hd
    rfl
  · obtain ⟨c, _, rfl⟩ := sg_mem hd
    exact ⟨(est_op (es_op od_notInS (es_var (i := 2) rfl hv) (es_w wFigs))).eq (by rw [mem_figs, sgn_w]), fun _ => es_var (i := 2) rfl hv⟩
  · refine rd_ret (d := aD (figs m w')) (es_non.eq ?_) fun v H3 e3 hv => q v H3 (e2.trans e3) hv
    have : figs m w' = none := by
      unfold figs
      rw [if_neg]
      intro z
      rw [Bool.and_eq_true] at z
      rw [z.1, z.2] at hb
      cases hb
    rw [this]
    rfl
  · have hb' : (decide (1 ≤ w'.length) && decide (w'.length ≤ m) && w'.all isDig) = true := by
      cases h1 : (decide (1 ≤ w'.length) && decide (w'.length ≤ m)) <;> cases h2 : w'.all isDig <;> rw [h1, h2] at hb <;> first | rfl | cases hb
    obtain ⟨c, r, rfl⟩ : ∃ c r, w' = c :: r := by
      cases w' with
      | nil => simp at hb'
      | cons c r => exact ⟨c, r, rfl⟩
    have ht2 := htext.same e2
    refine rd_ret (es_if (est_and (est_op (es_op od_neW (es_var rfl ht2) (es_w [48]))) fun _ => (est_op (es_op od_eqW (es_op (od_ixS (by omega) atI_0) (es_var rfl ht2) es_int) (es_w [48])))) (fun hc => es_non.eq ?_) (fun hc => (es_b (cb_int ?_ ?_ ?_) (esa_cons (es_var rfl ht2) esa_nil)).eq ?_)) fun v H3 e3 hv => q v H3 (e2.trans e3) hv
    · have : figs m (c :: r) = none := by
        unfold figs
        rw [if_pos hb', if_pos]
        simp at hc ⊢
        refine ⟨hc.2, fun e => ?_⟩
        rcases hc.1 with h | h
        · exact absurd e h
        · exact h
      rw [this]
      rfl
    · simp only [Bool.and_eq_true] at hb'
      exact hb'.2
    · simp
    · simp at hb' ⊢
      omega
    · have : figs m (c :: r) = some (NumText.digitsVal (c :: r)) := by
        unfold figs
        rw [if_pos hb', if_neg]
        simp at hc ⊢
        intro h1
        exact ⟨h1, Classical.byContradiction fun h3 => hc (.inr h3) h1⟩
      rw [this]
      rfl
def RLName : List PyData → PyData → Prop := fun ds d => ∃ w : Wd, ds = [wD w] ∧ w.length ≤ 4000 ∧ Cp w ∧ d = .bool (isName w)
abbrev N_law_is_name : List Str := ["text", "sign"]
abbrev P_law_is_name : List Str := ["text"]
theorem sc_law_is_name : FnScope N_law_is_name P_law_is_name (defScope s_law_is_name) := ⟨rfl, rfl, rfl, by decide +kernel, rfl, by decide +kernel, by decide +kernel⟩
theorem c_law_is_name (T : Tx w K mg) : Cal P w K mg base 1 "_law_is_name" (spD K RLName) [] := by
  obtain ⟨fd, F⟩ := T.d_law_is_name
  refine cal_of F (F.ok sc_law_is_name (spD_len fun ds d h => by obtain ⟨_, rfl, _⟩ := h; rfl) (fun cdv A outer s H vs Q E hr h => ⟨_, PSs.nox (pss_cons (ps_if (PW.pt (pw_or (pt_not (pt_chain op_le op_le pe_int (pe_callB (call_lenK (K := K)) rfl T.n_len PySem.boot_len (pa_cons (pv 0) pa_nil)) pe_int)) (pw_or1 (pt_cmpR (op_inK (K := K)) (pv 0) (pe_lst (pa_cons pe_str (pa_cons pe_str (pa_cons pe_str (pa_cons pe_str (pa_cons pe_str pa_nil)))))) (by rfl))))) (pss_one (ps_ret pe_bl)) pss_nil)
    (pss_one (ps_ret (pe_cmpR (op_eqEL (K := K) hr.units) (pe_lc (own := [("sign", 1)]) (g := (gName 1)) (by rfl) sc_law_is_name.nd (pi_str (pv 0)) (blkOk_by (N := N_law_is_name) (sc := defScope s_law_is_name) (by decide +kernel)) (fun _ _ _ _ _ => (pg_name (i := 1) sc_law_is_name.nd rfl (Or.inl rfl))) (fun _ _ _ _ _ => (pts_one (pt_cmpR op_notInS (pv 1) pe_str (by rfl)))) (fun _ _ _ _ _ => (pv 1))) (pe_lst pa_nil) (nomark _))))), ?_⟩)) T.g_law_is_name
    fun _ _ _ _ _ _ us hl => match us, hl with | [_], _ => rfl
  obtain ⟨ds, d, hvs, ⟨w', rfl, hl, hcp, rfl⟩, q⟩ := h
  obtain ⟨v, rfl, htext⟩ := hvs.one_inv
  refine rd_if (b := !(decide (1 ≤ w'.length) && decide (w'.length ≤ 8)) || kept.contains w') (est_or ((est_not (est_op (es_chain od_cmp od_cmp es_int (es_b (cb_lenW (by omega)) (esa_cons (es_var rfl htext) esa_nil)) es_int))).eq (by congr 2 <;> (apply decide_eq_decide.mpr; omega))) fun _ => (est_op (es_op (od_in (ws := kept)) (es_var rfl htext) (es_lst (esa_cons (es_w wAll) (esa_cons (es_w wFun) (esa_cons (es_w wSame) (esa_cons (es_w wSelf) (esa_cons (es_w wPut) esa_nil))))))))) (fun H2 e2 hb => ?_) (fun H2 e2 hb => ?_)
  · refine rd_ret (d := .bool (isName w')) (es_bl.eq ?_) fun v H3 e3 hv => q v H3 (e2.trans e3) hv
    have : isName w' = false := by
      unfold isName
      cases h1 : (decide (1 ≤ w'.length) && decide (w'.length ≤ 8)) <;> cases h2 : kept.contains w' <;> rw [h1, h2] at hb <;> first | rfl | cases hb
    rw [this]
  · refine rd_ret (d := .bool (isName w')) ((es_op (od_eqEL (lay_sg (hcp.filter fun c => !isLow c))) ((es_lc (p := fun d => !isLow (sgn d)) (f := fun d => d) (esi_str (es_var rfl (htext.same e2))) (fun _ => rfl) (by rw [sg_len]; omega) (fun d hd _ => ?_) fun d hd v H3 e3 hv => ?_).eq (congrArg PyData.list (sg_filter w' fun c => !isLow c))) (es_lst esa_nil)).eq ?_) fun v H3 e3 hv => q v H3 (e2.trans e3) hv
    · obtain ⟨c, _, rfl⟩ := sg_mem hd
      rfl
    · obtain ⟨c, _, rfl⟩ := sg_mem hd
      exact ⟨(est_op (es_op od_notInS (es_var (i := 1) rfl hv) (es_w wSmall))).eq (by rw [mem_small, sgn_w]), fun _ => es_var (i := 1) rfl hv⟩
    · rw [sg_empty, filter_all]
      unfold isName
      cases h1 : (decide (1 ≤ w'.length) && decide (w'.length ≤ 8)) <;> cases h2 : kept.contains w' <;> rw [h1, h2] at hb <;> first | rfl | cases hb
end
end K83
namespace K83
open PySem PySem.Spec PyProof.Rows L2
open C8 (Cal pe_c CalAt)
/-! ### _law_words -/
def keepW (w : Wd) : Bool := !([[], [32]] : List Wd).contains w
theorem keep_cur {cur : Wd} (h : 32 ∉ cur) (l : List Wd) : (cur :: l).filter keepW = flush cur ++ l.filter keepW := by
  unfold flush
  by_cases e : cur = []
  · subst e
    rfl
  · have e2 : cur ≠ [32] := fun z => h (by rw [z]; simp)
    rw [if_neg e, List.filter_cons_of_pos (by simp [keepW, e, e2])]
    rfl
section
variable {P : Program} {w : World} {K : PySem.W.Frag} {mg : Str → Option Value} {base : Heap}
abbrev N_law_words : List Str := ["text", "found", "sign", "word"]
abbrev P_law_words : List Str := ["text"]
theorem sc_law_words : FnScope N_law_words P_law_words (defScope s_law_words) := ⟨rfl, rfl, rfl, by decide +kernel, rfl, by decide +kernel, by decide +kernel⟩
theorem filt_keep (ws : List Wd) : ((wsD ws).filter (fun d => keepW (wdOf d))).map (fun d => d) = wsD (ws.filter keepW) := by
  rw [List.map_id']
  unfold wsD
  rw [List.filter_map]
  rfl
theorem c_law_words (T : Tx w K mg) : Cal P w K mg base 1 "_law_words" (spD K RWsOf) [] := by
  obtain ⟨fd, F⟩ := T.d_law_words
  refine cal_of F (F.ok sc_law_words (spD_len fun ds d h => by obtain ⟨_, rfl, _⟩ := h; rfl) (fun cdv A outer s H vs Q E hr h => ⟨_, PSs.nox (pss_cons (ps_set (i := 1) sc_law_words.nd rfl (Or.inl rfl) (pe_lst (pa_cons pe_str pa_nil)))
    (pss_cons (ps_for PassesOwn.never rfl (pi_str (pv 0)) (pg_name (i := 2) sc_law_words.nd rfl (Or.inl rfl))
      (pss_one (ps_if (PW.pt (pw_or (pt_cmpR op_eq (pv 2) pe_str (nomark _)) (pw_or1 (pt_cmpR op_inS (pv 2) pe_str (by rfl))))) (pss_one (ps_expr (pe_bm PySem.F.plainAttrs_list PySem.F.slot_list_extend PySem.F.type_list_extend mt_extend (pv 1) (pa_cons (pe_lst (pa_cons (pv 2) (pa_cons pe_str pa_nil))) pa_nil)))) (pss_one (ps_asg (pe_op op_addS (pe_ix (ix_listK (K := K)) (pv 1) (pe_un un_neg pe_int) (fun _ _ => rfl)) (pv 2)) (pg_sub (pv 1) (pe_un un_neg pe_int) set_list))))))
    (pss_one (ps_ret (pe_lc (own := [("word", 3)]) (g := (gName 3)) (by rfl) sc_law_words.nd (pi_list (pv 1)) (blkOk_by (N := N_law_words) (sc := defScope s_law_words) (by decide +kernel)) (fun _ _ _ _ _ => (pg_name (i := 3) sc_law_words.nd rfl (Or.inl rfl))) (fun _ _ _ _ _ => (pts_one (pt_cmpR (op_notInK (K := K)) (pv 3) (pe_lst (pa_cons pe_str (pa_cons pe_str pa_nil))) (by rfl)))) (fun _ _ _ _ _ => (pv 3))))))), ?_⟩)) T.g_law_words
    fun _ _ _ _ _ _ us hl => match us, hl with | [_], _ => rfl
  obtain ⟨ds, d, hvs, ⟨l, rfl, hl, rfl⟩, q⟩ := h
  obtain ⟨v, rfl, htext⟩ := hvs.one_inv
  refine rd_new (K := K) (ds := [wD []]) (esa_cons (es_w []) esa_nil) (by simp) fun f H2 xs e2 hf hf2 hx => ?_
  have hxs : xs = ([[]] : List Wd).map wV := Dt.ws_eq (ws := [[]]) hx
  subst hxs
  refine rd_forS (w := l) (es_var (K := K) (i := 0) rfl (htext.same e2)) (fun i σ H' => ∃ done cur z, σ = [some v, some (.ref f), z, none] ∧ Same H H' ∧ H' f = some (.lst ((done ++ [cur]).map wV)) ∧ done.filter keepW ++ tk cur (l.drop i) = toks l ∧ done.length ≤ 2 * i ∧ cur.length ≤ i ∧ 32 ∉ cur)
    (fun H3 e3 => ⟨[], [], none, rfl, e2.trans e3, e3 _ _ hf2, rfl, Nat.le_refl _, Nat.le_refl _, by simp⟩) (fun i c σ' H' hc g => ?_) (fun σ' H' g => ?_)
  · obtain ⟨done, cur, z, rfl, g1, g2, g3, g4, g5, g6⟩ := g
    have hi : i < l.length := (List.getElem?_eq_some_iff.mp hc).1
    have edrop : l.drop i = c :: l.drop (i + 1) := by rw [List.drop_eq_getElem_cons hi, (List.getElem?_eq_some_iff.mp hc).2]
    rw [edrop] at g3
    refine rd_if (b := decide ([c] = [32]) || decide (c ∈ ([40, 41] : Wd))) (est_or (est_op (es_op od_eqW (es_var (K := K) (i := 2) rfl (dt_w [c])) (es_w [32]))) fun _ => (est_op (es_op od_inS (es_var (K := K) (i := 2) rfl (dt_w [c])) (es_w [40, 41])))) (fun H3 e3 hb => ?_) (fun H3 e3 hb => ?_)
    · have g23 := e3 _ _ g2
      refine ⟨_, rfl, .inl ⟨rfl, _, SqL.of g23⟩, (esa_cons (es_lst (K := K) (esa_cons (es_var (i := 2) rfl (dt_w [c])) (esa_cons (es_w []) esa_nil))) esa_nil).at fun vs H4 e4 hvs => ?_⟩
      obtain ⟨v4, rfl, hv4⟩ := hvs.one_inv
      cases hv4 with
      | @lst b zs _ hb4 hz4 =>
      have hzs : zs = ([[c], []] : List Wd).map wV := Dt.ws_eq (ws := [[c], []]) hz4
      subst hzs
      refine ⟨f, b, _, _, rfl, rfl, e4 _ _ g23, hb4, by rw [List.length_map, List.length_map, List.length_append]; exact len_small (by simp; omega), ?_⟩
      have hb : c = 32 ∨ c = 40 ∨ c = 41 := by simpa using hb
      refine ⟨done ++ [cur, [c]], [], _, rfl, same_own ((g1.trans e3).trans e4) hf _, by rw [upd_same, ← List.map_append]; simp, ?_, by simp; omega, Nat.zero_le _, by simp⟩
      rw [← g3, List.filter_append, keep_cur g6, List.append_assoc, List.append_assoc]
      congr 1
      conv => rhs; unfold tk
      rcases hb with rfl | rfl | rfl
      · rfl
      · rfl
      · rfl
    · have hb : c ≠ 32 ∧ c ≠ 40 ∧ c ≠ 41 := by simpa using hb
      have g23 := e3 _ _ g2
      have hlast : (wsD (done ++ [cur])).getLast? = some (wD cur) := by simp [wsD]
      refine (es_op (K := K) (od_addS (by simp; omega)) (es_op (od_ixL (atI_m1 hlast)) (es_var (i := 1) rfl (.lst g23 (dt_ws _))) es_neg1) (es_var (i := 2) rfl (dt_w [c]))).at fun v4 H4 e4 hv4 => ?_
      cases hv4
      refine ⟨_, rfl, 1, rfl, f, _, -1, _, rfl, rfl, e4 _ _ g23, ixN_m1 (by simp), ?_⟩
      refine ⟨done, cur ++ [c], _, rfl, same_own ((g1.trans e3).trans e4) hf _, ?_, ?_, by omega, by simp; omega, by simp; exact ⟨g6, fun z => hb.1 z.symm⟩⟩
      · rw [upd_same]
        simp
        rfl
      · rw [← g3]
        congr 1
        conv => rhs; unfold tk
        rw [if_neg hb.1, if_neg (by simp [hb.2])]
  · obtain ⟨done, cur, z, rfl, g1, g2, g3, g4, g5, g6⟩ := g
    rw [List.drop_of_length_le (Nat.le_refl _)] at g3
    refine rd_ret (d := .list (wsD (toks l))) ((es_lc (p := fun d => keepW (wdOf d)) (f := fun d => d) (esi_list (es_var (K := K) (i := 1) rfl (.lst g2 (dt_ws _)))) (fun _ => rfl) (by rw [wsD_len]; simp; omega) (fun d hd _ => ?_) fun d hd v H3 e3 hv => ?_).eq ?_) fun v H3 e3 hv => q v H3 (g1.trans e3) hv
    · obtain ⟨u, _, rfl⟩ := List.mem_map.mp hd
      rfl
    · obtain ⟨u, _, rfl⟩ := List.mem_map.mp hd
      exact ⟨est_op (es_op (od_notIn (ws := [[], [32]])) (es_var (i := 3) rfl hv) (es_lst (esa_cons (es_w []) (esa_cons (es_w [32]) esa_nil)))), fun _ => es_var (i := 3) rfl hv⟩
    · rw [filt_keep, List.filter_append, keep_cur g6, ← g3]
      simp [tk]
end
end K83
namespace K83
open PySem PySem.Spec PyProof.Rows L2
/-! ### enumerate(text) -/
def ItES (z : Str) : It where
  go := fun i H => ∃ c : Nat, z.cps[i]? = some c
  yld := fun i H v H' => ∃ (T : Addr) (c : Nat), v = .ref T ∧ H T = none ∧ H' = upd H T (.tup [.int (i : Nat), .str ⟨#[c]⟩]) ∧ z.cps[i]? = some c
  stop := fun i H => i = z.cps.size
def tnES (z : Str) (t : Tok) (e it : Addr) (i : Nat) (h : Heap) : Prop := (∃ old, IsEnum h e it ((i : Nat) : Int) old) ∧ h.IsStrIter it (strIterType z) z t i ∧ e ≠ it
theorem turn_es {P : Program} {w : World} {K : PySem.W.Frag} {elts : List Expr} {kk : Nat} {tpos : Pos} {z : Str} {t : Tok} (e it : Addr) :
    Turn P w K (.Tuple elts kk tpos) (ItES z) [e, it] e (tnES z t e it) where
  mem := by simp
  obj := fun i h st b hb => by
    obtain ⟨⟨old, he⟩, ⟨o, ho, hc, hd⟩, _⟩ := st
    have e' : b = e ∨ b = it := by simpa using hb
    rcases e' with z | z
    · rw [z]; exact ⟨_, he, fun v q => nomatch q⟩
    · rw [z]; exact ⟨o, ho, fun v q => by rw [hd] at q; cases q⟩
  keep := fun i h h' st k => let ⟨⟨old, he⟩, ⟨o, e1, r⟩, hne⟩ := st; ⟨⟨old, k e (by simp) _ he⟩, ⟨o, k it (by simp) _ e1, r⟩, hne⟩
  item := by
    intro X hP hw hK hc i pins s σ H E I hf st hg
    subst hP hw hK
    obtain ⟨⟨old, he⟩, hit, hne⟩ := st
    obtain ⟨c, hcc⟩ := hg
    have hel : e < s.heap.objs.size := Heap.lt_size he
    have hil : it < s.heap.objs.size := by obtain ⟨_, q, _⟩ := hit; exact Heap.lt_size q
    have hA : X.A.in1.handled = none := I.ok.hd hc
    have hlt : i < z.cps.size := (Array.getElem?_eq_some_iff.mp hcc).1
    refine wpAny_pyNext_enum_itemD (Draws.text hA it z t) he hit hlt hne (by simpa using hne) fun x h' tk hP ho hit' hT hsz hk => ?_
    obtain ⟨c', tu, hc', rfl⟩ := hP
    rw [hcc] at hc'
    cases hc'
    refine ⟨_, rfl, wpAny_letOwnedTupleGo_enum (s := { s with heap := h', toks := tk + 1 }) ho fun h'' he' sb => ?_⟩
    have hT2 : h''.get? s.heap.objs.size = some { cls := .type "tuple", data := .seq #[.int i tk, .str ⟨#[c]⟩ tu] } := (sb.2 _ (Nat.ne_of_gt hel)).trans hT
    have new : ObjOk X.prog X.w (upd H s.heap.objs.size (.tup [.int (i : Nat), .str ⟨#[c]⟩])) h'' s.heap.objs.size (.tup [.int (i : Nat), .str ⟨#[c]⟩]) :=
      ⟨by show 2 ≤ sizeLine; decide, [.int i tk, .str ⟨#[c]⟩ tu], .cons ⟨_, rfl⟩ (.cons ⟨_, rfl⟩ .nil), ⟨_, hT2, rfl, _, rfl⟩⟩
    have I1 : Inv X pins σ (upd H s.heap.objs.size (.tup [.int (i : Nat), .str ⟨#[c]⟩])) { s with heap := h'', toks := tk + 1 } :=
      I.turnedNew (t' := tk + 1) (ch := [e, it]) (fun b ob hb q => (sb.2 b (fun z => hb (by simp [z]))).trans (hk b ob (fun z => hb (by simp [z])) (fun z => hb (by simp [z])) q)) hf (Nat.le_refl _) new
    refine ⟨.ref s.heap.objs.size, _, I1, rfl, ⟨_, c, rfl, I.hok.fresh (Nat.le_refl _), rfl, hcc⟩, ⟨⟨.str ⟨#[c]⟩ tu, ?_⟩, (let ⟨o, e1, r⟩ := hit'; ⟨o, (sb.2 it (Ne.symm hne)).trans e1, r⟩), hne⟩, fun b hb => ?_⟩
    · have e1 : ((i + 1 : Nat) : Int) = (i : Int) + 1 := by omega
      rw [e1]; exact he'
    · have hb' : b < s.heap.objs.size := by
        have e' : b = e ∨ b = it := by simpa using hb
        rcases e' with z | z
        · rw [z]; exact hel
        · rw [z]; exact hil
      rw [upd_ne (Nat.ne_of_lt hb')]
      exact (hf b hb).1
  done := by
    intro X hP hw hK hc i pins s σ H E I hf st hg
    subst hP hw hK
    obtain ⟨⟨old, he⟩, hit, hne⟩ := st
    obtain ⟨f0, f1, f2, f3, f4, f5⟩ := hf it (by simp)
    have hA : X.A.in1.handled = none := I.ok.hd hc
    have hi : i = z.cps.size := hg
    exact wpAny_pyNext_enum_endD (Draws.text hA it z t) he (by rw [← hi]; exact hit) fun h' eb => ⟨rfl, I.turned (t' := s.toks) (fun b o hb q => eb b o hb q) f0 f1 f3 f4 f5⟩
  self := fun A i s Q E st h => let ⟨⟨_, he⟩, _⟩ := st; wpAny_pyIter_enum he h
def iEnumS (ta : TA) : TI := fun σ H R => ta σ H fun vs H1 => ∃ z : Str, vs = [.str z] ∧ R (ItES z) H1
theorem pi_enumS {X : Cx} {e : Expr} {ta : TA} {p pos tpos : Pos} {elts : List Expr} {kk : Nat} (hg : Gl X "enumerate") (hm : X.mg "enumerate" = none) (ha : PA X [e] ta) (hs : starEach [e] X.env = [(false, eval e X.env)] := by rfl) :
    PI X (.Tuple elts kk tpos) (.Call (.Name "enumerate" p) [e] [] pos) (iEnumS ta) := by
  refine ⟨fun pins s σ H R I h => ?_⟩
  refine Call_ (ld_blt I hg hm boot_enumerate (PyProof.Rows.callWith_type1 (thn (ha.run pos pins s σ H _ I h) fun us s1 ⟨vs, H1, I1, r1, q1⟩ => ?_) hs rfl))
  obtain ⟨z, ex, q⟩ := q1
  subst ex
  cases r1 with
  | cons r rr =>
    cases rr
    obtain ⟨t, rfl⟩ := r
    refine call_enumerate_str fun h' he hit hsz hk => wpAny_pyIter_enum he ?_
    have I2 : Inv X pins σ H1 { s1 with heap := h' } := I1.kept (t' := s1.toks) hk
    refine ⟨s1.heap.objs.size + 1, [s1.heap.objs.size + 1, s1.heap.objs.size], _, _, H1, rfl, I2, turn_es (z := z) (t := t) (s1.heap.objs.size + 1) s1.heap.objs.size, ⟨⟨.none, he⟩, hit, Nat.succ_ne_self _⟩, fun b hb => ?_, q⟩
    have e' : b = s1.heap.objs.size + 1 ∨ b = s1.heap.objs.size := by simpa using hb
    have hle : s1.heap.objs.size ≤ b := by
      rcases e' with z | z
      · rw [z]; exact Nat.le_add_right _ _
      · rw [z]; exact Nat.le_refl _
    exact I1.fpOk hle (I1.hok.fresh hle)
theorem walk_es {z : Str} : Walk (ItES z) z.cps.size (fun _ => True) (fun i H v H' => ∃ (T : Addr) (c : Nat), v = .ref T ∧ H T = none ∧ H' = upd H T (.tup [.int (i : Nat), .str ⟨#[c]⟩]) ∧ z.cps[i]? = some c) := by
  refine ⟨fun i H hi _ => ⟨z.cps[i], by simp [hi]⟩, fun H _ => rfl, fun i H v H' _ _ y => y⟩
/-- for i, c in enumerate(text) -/
theorem rd_forES {K : PySem.W.Frag} {σ : L2.St} {H : Hp} {te : TE} {w : Wd} {k m : Nat} {tb : TS} {D : L2.Ends} (h : Es K te σ H (wD w)) (Pv : Nat → L2.St → Hp → Prop) (h0 : ∀ H2, Same H H2 → Pv 0 σ H2)
    (step : ∀ i c σ' H' H2, w[i]? = some c → Pv i σ' H' → Same H' H2 → tb { D with nx := Pv (i + 1), ct := Pv (i + 1), bk := D.nx } ((σ'.set k (some (.int (i : Nat)))).set m (some (wV [c]))) H2) (hd : ∀ σ' H', Pv w.length σ' H' → D.nx σ' H') :
    tFor (iEnumS (tCons te tNil)) (gTup K 2 (gCons (gName k) (gCons (gName m) gNil))) tb D σ H := h.at fun v H2 e2 hv => by
  cases hv
  have ws := walk_es (z := S w)
  have e : (S w).cps.size = w.length := S_length w
  rw [e] at ws
  refine ⟨_, rfl, for_it ws Pv (h0 H2 e2) (fun _ _ _ _ _ => trivial) (fun i x σ' H3 H4 hi p y => ?_) hd⟩
  obtain ⟨T, c, rfl, hT, rfl, hc⟩ := y
  exact ⟨_, _, rfl, SqT.of upd_same, rfl, _, _, rfl, _, _, rfl, rfl, step i c σ' H3 _ (by simpa [S, SX.S] using hc) p (same_new hT _)⟩
/-! ### str(int), str(None) -/
def rStr : List V → Hp → VK → Prop := fun xs H Q => (∃ i : Int, xs = [.int i] ∧ i.natAbs.log2 < 1920 ∧ Q (.str (toString i)) H) ∨ (xs = [.non] ∧ Q (.str "None") H)
theorem call_strN {X : Cx} : CallR X (.type "str") rStr := by
  intro pins s σ H xs us Q I r h
  rcases h with ⟨i, rfl, hz, q⟩ | ⟨rfl, q⟩
  · obtain ⟨u, rfl, t, rfl⟩ := vals1 r
    exact PySem.P.str_of_int hz ⟨.str _, H, I.tok _, ⟨_, rfl⟩, q⟩
  · obtain ⟨u, rfl, r1⟩ := vals1 r
    cases r1
    exact PySem.P.str_of_none ⟨.str _, H, I.tok _, ⟨_, rfl⟩, q⟩
theorem log_small {n : Nat} (h : n < 1000) : (n : Int).natAbs.log2 < 1920 := by
  rw [Int.natAbs_natCast]
  exact Nat.lt_of_le_of_lt (Nat.log2_le_self n) (by omega)
theorem cb_str {K : PySem.W.Frag} {o : Option Nat} (h : ∀ n, o = some n → n < 1000) : CbD K rStr [aD o] (wD (arW o)) := fun H vs hvs Q q => by
  obtain ⟨v, rfl, hv⟩ := hvs.one_inv
  cases o with
  | none =>
    cases hv
    exact .inr ⟨rfl, by rw [show ("None" : Str) = S noneW by decide +kernel]; exact q _ _ (Same.refl H) (.str _)⟩
  | some n =>
    cases hv
    refine .inl ⟨_, rfl, log_small (h n rfl), ?_⟩
    have := SX.num_S n
    rw [show (toString ((n : Nat) : Int) : Str) = S (TL.numL n) from this]
    exact q _ _ (Same.refl H) (.str _)
end K83
namespace K83
open PySem PySem.Spec PyProof.Rows L2
open C8 (Cal pe_c CalAt)
/-! ### _law_lone -/
theorem sl_k {K : PySem.W.Frag} {w : Wd} (h : w.length ≤ 4000) (k : Nat) : SlD K C8.rSlX (wD w) (some (k : Int)) none (wD (w.drop k)) := sd_txt (by omega) (SX.slice_from (i := (k : Int)) (by omega))
theorem sl_tok {K : PySem.W.Frag} {w : Wd} (h : w.length ≤ 4000) (k : Nat) : SlD K C8.rSlX (wD w) none (some (k : Int)) (wD (w.take k)) := sd_txt (by omega) (SX.slice_to (i := (k : Int)) (by omega))
def RLone : List PyData → PyData → Prop := fun ds d => ∃ (w : Wd) (ar : Ar), ds = [wD w, .list (ar.map aD)] ∧ w.length ≤ 4000 ∧ Cp w ∧ 78 ∉ w ∧ ArOk ar ∧ ar.length ≤ 50000 ∧ d = oT (lone w ar)
theorem Cp.drop {w : Wd} (h : Cp w) (k : Nat) : Cp (w.drop k) := fun c hc => h c (List.mem_of_mem_drop hc)
theorem Cp.take {w : Wd} (h : Cp w) (k : Nat) : Cp (w.take k) := fun c hc => h c (List.mem_of_mem_take hc)
theorem arW_len {o : Option Nat} (h : ∀ n, o = some n → n < 1000) : (arW o).length ≤ 4 := by
  cases o with
  | none => simp [arW, noneW]
  | some n => exact Nat.le_succ_of_le (num_lt (h n rfl))
section
variable {P : Program} {w : World} {K : PySem.W.Frag} {mg : Str → Option Value} {base : Heap}
abbrev N_law_lone : List Str := ["word", "around", "rest", "k", "sign"]
abbrev P_law_lone : List Str := ["word", "around"]
theorem sc_law_lone : FnScope N_law_lone P_law_lone (defScope s_law_lone) := ⟨rfl, rfl, rfl, by decide +kernel, rfl, by decide +kernel, by decide +kernel⟩
theorem hgt_one {w : Wd} {n : Nat} (h : hgt w = some n) : ∃ c, w = [c] ∧ 48 ≤ c ∧ c ≤ 53 ∧ n = c - 48 := by
  unfold hgt at h
  split at h
  · rename_i c
    split at h
    · rename_i hc
      cases h
      exact ⟨c, rfl, hc.1, hc.2, rfl⟩
    · cases h
  · cases h
theorem int_one {K : PySem.W.Frag} {σ : L2.St} {H : Hp} {t : TE} {c : Nat} (h : Es K t σ H (wD [c])) (h1 : 48 ≤ c) (h2 : c ≤ 53) : Es K (tCB rIntS (tCons t tNil)) σ H (.int ((c - 48 : Nat) : Int)) :=
  (es_b (cb_int (w := [c]) (by simp [isDig]; omega) (by simp) (by simp)) (esa_cons h esa_nil)).eq (by rw [val1])
theorem c_law_lone (T : Tx w K mg) : Cal P w K mg base 2 "_law_lone" (spD K RLone) [] := by
  obtain ⟨fd, F⟩ := T.d_law_lone
  have c_law_is_name := c_law_is_name (P := P) (base := base) T
  have c_law_figures := c_law_figures (P := P) (base := base) T
  refine cal_of F (F.ok sc_law_lone (spD_len fun ds d h => by obtain ⟨_, _, rfl, _⟩ := h; rfl) (fun cdv A outer s H vs Q E hr h => ⟨_, PSs.nox (pss_cons (ps_if (pt_val (pe_c c_law_is_name hr (by decide) rfl (pa_cons (pv 0) pa_nil))) (pss_one (ps_ret (pe_tup (pa_cons pe_str (pa_cons (pv 0) pa_nil))))) pss_nil)
    (pss_cons (ps_set (i := 2) sc_law_lone.nd rfl (Or.inl rfl) (pe_slice C8.sl_txt (pv 0) (po_some pe_int) po_none))
    (pss_cons (ps_for PassesOwn.never rfl (pi_range1 (by rfl) T.n_range (pa_cons (pe_callB (call_lenK (K := K)) rfl T.n_len PySem.boot_len (pa_cons (pv 1) pa_nil)) pa_nil)) (pg_name (i := 3) sc_law_lone.nd rfl (Or.inl rfl))
      (pss_one (ps_if (pt_cmpR op_eq (pv 0) (pe_op op_addS pe_str (pe_callTy call_strN rfl T.n_str b_str (pa_cons (pe_ix (ix_listK (K := K)) (pv 1) (pe_op op_sub (pe_op op_sub (pe_callB (call_lenK (K := K)) rfl T.n_len PySem.boot_len (pa_cons (pv 1) pa_nil)) pe_int) (pv 3)) (fun _ _ => rfl)) pa_nil))) (nomark _)) (pss_one (ps_ret (pe_tup (pa_cons pe_str (pa_cons (pv 3) pa_nil))))) pss_nil)))
    (pss_cons (ps_if (pt_cmpR op_eq (pe_slice C8.sl_txt (pv 0) po_none (po_some pe_int)) pe_str (nomark _)) (pss_one (ps_ret (pe_ifExp (PW.pt (pw_and (pt_cmpR op_eq (pe_callB (call_lenK (K := K)) rfl T.n_len PySem.boot_len (pa_cons (pv 2) pa_nil)) pe_int (nomark _)) (pw_and1 (pt_cmpR op_inS (pv 2) pe_str (by rfl))))) (pe_tup (pa_cons pe_str (pa_cons (pe_callTy call_intS rfl T.n_int b_int (pa_cons (pv 2) pa_nil)) pa_nil))) pe_non))) pss_nil)
    (pss_cons (ps_if (pt_cmpR op_eq (pe_slice C8.sl_txt (pv 0) po_none (po_some pe_int)) pe_str (nomark _)) (pss_one (ps_ret (pe_ifExp (pt_val (pe_c c_law_is_name hr (by decide) rfl (pa_cons (pv 2) pa_nil))) (pe_tup (pa_cons pe_str (pa_cons (pv 2) pa_nil))) pe_non))) pss_nil)
    (pss_cons (ps_for PassesOwn.never rfl (pi_enumS (by rfl) T.n_enumerate (pa_cons (pv 0) pa_nil)) (pg_tup (n := 2) (by rfl) (pgs_cons (pg_name (i := 3) sc_law_lone.nd rfl (Or.inl rfl)) (pgs_cons (pg_name (i := 4) sc_law_lone.nd rfl (Or.inl rfl)) pgs_nil)))
      (pss_cons (ps_if (PW.pt (pw_and (pt_cmpR op_eq (pv 4) pe_str (nomark _)) (pw_and (pt_val (pe_c c_law_is_name hr (by decide) rfl (pa_cons (pe_slice C8.sl_txt (pv 0) po_none (po_some (pv 3))) pa_nil))) (pw_and1 (pt_cmpR op_isNotK (pe_c c_law_figures hr (by decide) rfl (pa_cons (pe_slice C8.sl_txt (pv 0) (po_some (pe_op op_add (pv 3) pe_int)) po_none) (pa_cons pe_int pa_nil))) pe_non (nomark _)))))) (pss_one (ps_ret (pe_tup (pa_cons pe_str (pa_cons (pe_slice C8.sl_txt (pv 0) po_none (po_some (pv 3))) (pa_cons (pe_callTy call_intS rfl T.n_int b_int (pa_cons (pe_slice C8.sl_txt (pv 0) (po_some (pe_op op_add (pv 3) pe_int)) po_none) pa_nil)) pa_nil)))))) pss_nil)
    (pss_one (ps_if (PW.pt (pw_and (pt_cmpR op_eq (pv 4) pe_str (nomark _)) (pw_and (pt_val (pe_c c_law_is_name hr (by decide) rfl (pa_cons (pe_slice C8.sl_txt (pv 0) po_none (po_some (pv 3))) pa_nil))) (pw_and (pt_cmpR op_eq (pe_callB (call_lenK (K := K)) rfl T.n_len PySem.boot_len (pa_cons (pv 0) pa_nil)) (pe_op op_add (pv 3) pe_int) (nomark _)) (pw_and1 (pt_cmpR op_inS (pe_ix ix_str (pv 0) (pe_op op_add (pv 3) pe_int) (fun _ _ => rfl)) pe_str (by rfl))))))) (pss_one (ps_ret (pe_tup (pa_cons pe_str (pa_cons (pe_slice C8.sl_txt (pv 0) po_none (po_some (pv 3))) (pa_cons (pe_callTy call_intS rfl T.n_int b_int (pa_cons (pe_ix ix_str (pv 0) (pe_op op_add (pv 3) pe_int) (fun _ _ => rfl)) pa_nil)) pa_nil)))))) pss_nil))))
    (pss_one (ps_ret pe_non)))))))), ?_⟩)) T.g_law_lone
    fun _ _ _ _ _ _ us hl => match us, hl with | [_, _], _ => rfl
  obtain ⟨ds, d, hvs, ⟨wd, ar, rfl, hl, hcp, hN, hao, har, rfl⟩, q⟩ := h
  cases hvs with
  | @cons v1 _ _ _ hword hvs =>
  obtain ⟨v2, rfl, haround⟩ := hvs.one_inv
  refine rd_if (est_val (es_c (esa_cons (es_var rfl hword) esa_nil) ⟨wd, rfl, hl, hcp, rfl⟩)) (fun H2 e2 hb => ?_) (fun H2 e2 hn => ?_)
  · refine rd_ret (d := oT (lone wd ar)) ((es_tup (esa_cons (es_w wThing) (esa_cons (es_var rfl (hword.same e2)) esa_nil))).eq ?_) fun v H3 e3 hv => q v H3 (e2.trans e3) hv
    unfold lone
    rw [if_pos hb]
    rfl
  refine rd_set (es_sl (sl_1 hl) (es_var (i := 0) rfl (hword.same e2)) eso_int eso_no) fun vr H3 e3 hrest => ?_
  have e23 := e2.trans e3
  have alen : ((ar.map aD).length : Int) = (ar.length : Int) := by simp
  refine rd_forR (n := ar.length) ((es_b cb_lenL (esa_cons (es_var (K := K) (i := 1) rfl (haround.same e23)) esa_nil)).eq (by rw [alen])) (by omega) (fun i σ H' => (∃ z, σ = [some v1, some v2, some vr, z, none]) ∧ Same H3 H' ∧ ∀ j < i, ¬ hitA wd ar j)
    (fun H4 e4 => ⟨⟨_, rfl⟩, e4, fun j hj => absurd hj (Nat.not_lt_zero _)⟩) (fun i σ H' hi g => ?_) (fun σ H' g => ?_)
  · obtain ⟨⟨z, rfl⟩, g1, g2⟩ := g
    have eh := e23.trans g1
    have ho : ar.length - 1 - i < ar.length := by omega
    have hoi : ar[ar.length - 1 - i]? = some ar[ar.length - 1 - i] := List.getElem?_eq_getElem ho
    generalize hx : ar[ar.length - 1 - i] = o at hoi
    have hsm : ∀ n, o = some n → n < 1000 := fun n e => hao n (by rw [← e]; exact List.mem_of_getElem? hoi)
    refine rd_if (b := decide (wd = 120 :: arW o)) ((est_op (es_op od_eqW (es_var (K := K) (i := 0) rfl (hword.same eh)) (es_op (od_addS (a := [120]) (b := arW o) (by have := arW_len hsm; simp; omega)) (es_w [120]) (es_b (cb_str hsm) (esa_cons (es_op (od_ixL (i := ((ar.length - 1 - i : Nat) : Int)) (atI_n (by rw [List.getElem?_map, hoi]; rfl))) (es_var (i := 1) rfl (haround.same eh)) ((es_op od_sub (es_op od_sub (es_b cb_lenL (esa_cons (es_var (i := 1) rfl (haround.same eh)) esa_nil)) es_int) (es_var (i := 3) rfl (.int _))).eq (by rw [alen]; congr 1; omega))) esa_nil))))).eq rfl) (fun H4 e4 hb => ?_) (fun H4 e4 hb => ?_)
    · have hh : hitA wd ar i := ⟨o, hoi, hi, by simpa using hb⟩
      refine rd_ret (d := oT (lone wd ar)) ((es_tup (esa_cons (es_w [97, 116]) (esa_cons (es_var (i := 3) rfl (.int _)) esa_nil))).eq ?_) fun v H5 e5 hv => q v H5 ((eh.trans e4).trans e5) hv
      rw [place_lone (place_hit hao hN hh g2) hn]
      rfl
    · refine ⟨⟨_, rfl⟩, g1.trans e4, fun j hj => ?_⟩
      by_cases e : j = i
      · subst e
        rintro ⟨o', h1, h2, h3⟩
        rw [hoi] at h1
        cases h1
        simp [h3] at hb
      · exact g2 j (by omega)
  obtain ⟨⟨z, rfl⟩, g1, g2⟩ := g
  have eh := e23.trans g1
  have hlone := lone_law hn (place_no g2)
  have hrest := hrest.same g1
  have q : Af K H' (oT (lone wd ar)) Q := fun v H5 e5 hv => q v H5 (eh.trans e5) hv
  have hword := hword.same eh
  refine rd_if (b := decide (wd.take 1 = [42])) (est_op (es_op od_eqW (es_sl (sl_to1 hl) (es_var (i := 0) rfl hword) eso_no eso_int) (es_w [42]))) (fun H4 e4 hb => ?_) (fun H4 e4 hb1 => ?_)
  · have hb : wd.head? = some 42 := take1.mp (by simpa using hb)
    rw [if_pos hb] at hlone
    refine rd_ret (d := oT (lone wd ar)) ?_ fun v H5 e5 hv => q v H5 (e4.trans e5) hv
    have hrest := hrest.same e4
    rw [hlone]
    cases e : hgt (wd.drop 1) with
    | some n =>
      obtain ⟨c, h1, h2, h3, rfl⟩ := hgt_one e
      rw [h1] at hrest
      exact (es_if (c := true) ((est_and (a := true) (b := true) ((est_op (es_op od_eqI (es_b (cb_lenW (by simp)) (esa_cons (es_var (i := 2) rfl hrest) esa_nil)) es_int)).eq rfl) fun _ => ((est_op (es_op od_inS (es_var (i := 2) rfl hrest) (es_w wHts))).eq (by rw [mem_hts]; simp; omega))).eq rfl) (fun _ => (es_tup (esa_cons (es_w [107, 105, 110, 100]) (esa_cons (int_one (es_var (i := 2) rfl hrest) h2 h3) esa_nil)))) (fun hc => absurd hc (by simp))).eq rfl
    | none =>
      by_cases hl1 : (wd.drop 1).length = 1
      · obtain ⟨c, h1⟩ := List.length_eq_one_iff.mp hl1
        rw [h1] at hrest e
        exact (es_if (c := false) ((est_and (a := true) (b := false) ((est_op (es_op od_eqI (es_b (cb_lenW (by simp)) (esa_cons (es_var (i := 2) rfl hrest) esa_nil)) es_int)).eq rfl) fun _ => ((est_op (es_op od_inS (es_var (i := 2) rfl hrest) (es_w wHts))).eq (by
          rw [mem_hts]
          unfold hgt at e
          simp at e ⊢
          omega))).eq rfl) (fun hc => absurd hc (by simp)) (fun _ => es_non)).eq rfl
      · exact (es_if (c := false) ((est_and (a := false) (b := false) ((est_op (es_op od_eqI (es_b (cb_lenW (by rw [List.length_drop]; omega)) (esa_cons (es_var (i := 2) rfl hrest) esa_nil)) es_int)).eq (by simp at hl1 ⊢; omega)) fun hc => absurd hc (by simp)).eq rfl) (fun hc => absurd hc (by simp)) (fun _ => es_non)).eq rfl
  have hb1 : ¬ wd.head? = some 42 := fun e => by rw [take1.mpr e] at hb1; simp at hb1
  rw [if_neg hb1] at hlone
  have hrest := hrest.same e4
  have hword := hword.same e4
  have q : Af K H4 (oT (lone wd ar)) Q := fun v H5 e5 hv => q v H5 (e4.trans e5) hv
  refine rd_if (b := decide (wd.take 1 = [64])) (est_op (es_op od_eqW (es_sl (sl_to1 hl) (es_var (i := 0) rfl hword) eso_no eso_int) (es_w [64]))) (fun H5 e5 hb => ?_) (fun H5 e5 hb2 => ?_)
  · have hb : wd.head? = some 64 := take1.mp (by simpa using hb)
    rw [if_pos hb] at hlone
    refine rd_ret (d := oT (lone wd ar)) ?_ fun v H6 e6 hv => q v H6 (e5.trans e6) hv
    have hrest := hrest.same e5
    rw [hlone]
    exact es_if (est_val (es_c (esa_cons (es_var (i := 2) rfl hrest) esa_nil) ⟨_, rfl, by rw [List.length_drop]; omega, hcp.drop 1, rfl⟩)) (fun hc => (es_tup (esa_cons (es_w [110, 97, 109, 101]) (esa_cons (es_var (i := 2) rfl hrest) esa_nil))).eq (by rw [if_pos hc]; rfl)) (fun hc => es_non.eq (by rw [if_neg (by rw [hc]; simp)]; rfl))
  have hb2 : ¬ wd.head? = some 64 := fun e => by rw [take1.mpr e] at hb2; simp at hb2
  rw [if_neg hb2] at hlone
  have hword := hword.same e5
  have q : Af K H5 (oT (lone wd ar)) Q := fun v H6 e6 hv => q v H6 (e5.trans e6) hv
  refine rd_forES (w := wd) (es_var (K := K) (i := 0) rfl hword) (fun i σ H' => (∃ z y, σ = [some v1, some v2, some vr, z, y]) ∧ Same H5 H' ∧ ∀ j < i, hitM wd j = none)
    (fun H6 e6 => ⟨⟨_, _, rfl⟩, e6, fun j hj => absurd hj (Nat.not_lt_zero _)⟩) (fun i c σ H6 H7 hc g e7 => ?_) (fun σ H6 g => ?_)
  · obtain ⟨⟨z, y, rfl⟩, g1, g2⟩ := g
    have g17 := g1.trans e7
    have hi : i < wd.length := (List.getElem?_eq_some_iff.mp hc).1
    have hw7 := hword.same g17
    have kint : ∀ {H'} , Es K (tVar 3) [some v1, some v2, some vr, some (.int (i : Nat)), some (wV [c])] H' (.int (i : Nat)) := es_var (i := 3) rfl (.int _)
    have tk : ∀ {H'}, Same H7 H' → Es K (tSl C8.rSlX (tVar 0) tNoPart (tPart (tVar 3))) [some v1, some v2, some vr, some (.int (i : Nat)), some (wV [c])] H' (wD (wd.take i)) := fun e => es_sl (sl_tok hl i) (es_var (i := 0) rfl (hw7.same e)) eso_no (eso_some (K := K) kint)
    have k1 : ∀ {H'}, Es K (tOp (rI0 fun i j => .int (i + j)) (tVar 3) (tC (.int 1))) [some v1, some v2, some vr, some (.int (i : Nat)), some (wV [c])] H' (.int ((i + 1 : Nat) : Int)) := (es_op od_add kint es_int).eq (by congr 1)
    have dr : ∀ {H'}, Same H7 H' → Es K (tSl C8.rSlX (tVar 0) (tPart (tOp (rI0 fun i j => .int (i + j)) (tVar 3) (tC (.int 1)))) tNoPart) [some v1, some v2, some vr, some (.int (i : Nat)), some (wV [c])] H' (wD (wd.drop (i + 1))) := fun e => es_sl (sl_k hl (i + 1)) (es_var (i := 0) rfl (hw7.same e)) (eso_some (K := K) k1) eso_no
    have nm : ∀ {H'}, Same H7 H' → Es K (tCall (spD K RLName) [] E0 (tCons (tSl C8.rSlX (tVar 0) tNoPart (tPart (tVar 3))) tNil)) [some v1, some v2, some vr, some (.int (i : Nat)), some (wV [c])] H' (.bool (isName (wd.take i))) := fun e => es_c (esa_cons (tk e) esa_nil) ⟨_, rfl, by rw [List.length_take]; omega, hcp.take i, rfl⟩
    refine rd_if (b := decide ([c] = [35]) && (isName (wd.take i) && (figs 30 (wd.drop (i + 1))).isSome)) (est_and (est_op (es_op od_eqW (es_var (K := K) (i := 4) rfl (dt_w [c])) (es_w [35]))) fun _ => est_and (est_val (nm (Same.refl _))) fun _ => ((est_op (es_op od_notN (es_c (esa_cons (dr (Same.refl _)) (esa_cons es_int esa_nil)) ⟨_, 30, rfl, by rw [List.length_drop]; omega, by decide, hcp.drop _, rfl⟩) es_non)).eq (by rw [isNone_aD]; cases figs 30 (wd.drop (i + 1)) <;> rfl))) (fun H8 e8 hb => ?_) (fun H8 e8 hb => ?_)
    · simp at hb
      obtain ⟨h1, h2, h3⟩ := hb
      obtain ⟨n, hn'⟩ := Option.isSome_iff_exists.mp h3
      obtain ⟨f1, f2, f3, f4, f5⟩ := figs_some hn'
      have hm : hitM wd i = some (.maker (wd.take i) n) := by
        unfold hitM
        rw [if_pos ⟨by rw [hc, h1], h2, h3⟩, hn']
        rfl
      refine rd_ret (d := oT (lone wd ar)) ((es_tup (esa_cons (es_w wMaker) (esa_cons (tk e8) (esa_cons (es_b (cb_int (List.all_eq_true.mpr fun x hx => by have := f3 x hx; simp [isDig]; omega) (List.ne_nil_of_length_pos (by omega)) (by omega)) (esa_cons (dr e8) esa_nil)) esa_nil)))).eq ?_) fun v H9 e9 hv => q v H9 ((g17.trans e8).trans e9) hv
      rw [hlone, hit_tail hm, f4]
      rfl
    · have g18 := g17.trans e8
      have n35 : ¬ (wd[i]? = some 35 ∧ isName (wd.take i) = true ∧ (figs 30 (wd.drop (i + 1))).isSome = true) := fun z => by
        rw [hc] at z
        obtain ⟨z1, z2, z3⟩ := z
        cases z1
        rw [z2, z3] at hb
        cases hb
      refine rd_if (b := decide ([c] = [33]) && (isName (wd.take i) && (hgt (wd.drop (i + 1))).isSome)) (est_and (est_op (es_op od_eqW (es_var (K := K) (i := 4) rfl (dt_w [c])) (es_w [33]))) fun _ => est_and (est_val (nm e8)) fun _ => ?_) (fun H9 e9 hb2 => ?_) (fun H9 e9 hb2 => ?_)
      · have hlen : Es K (tOp rEq (tCB (rLen K) (tCons (tVar 0) tNil)) (tOp (rI0 fun i j => .int (i + j)) (tVar 3) (tC (.int 2)))) [some v1, some v2, some vr, some (.int (i : Nat)), some (wV [c])] H8 (.bool (decide ((wd.drop (i + 1)).length = 1))) := (es_op od_eqI (es_b (cb_lenW (by omega)) (esa_cons (es_var (i := 0) rfl (hw7.same e8)) esa_nil)) (es_op od_add kint es_int)).eq (by
          rw [List.length_drop]
          congr 1
          apply decide_eq_decide.mpr
          omega)
        by_cases h1 : (wd.drop (i + 1)).length = 1
        · obtain ⟨b, hb1⟩ := List.length_eq_one_iff.mp h1
          have hbi : wd[i + 1]? = some b := by
            have : (wd.drop (i + 1))[0]? = some b := by rw [hb1]; rfl
            rwa [List.getElem?_drop, Nat.add_zero] at this
          refine (est_and (b := (hgt (wd.drop (i + 1))).isSome) ((est_op hlen).eq (decide_eq_true h1)) fun _ => ((est_op (es_op od_inS (es_op (od_ixS (i := ((i + 1 : Nat) : Int)) (by omega) (atI_n hbi)) (es_var (i := 0) rfl (hw7.same e8)) k1) (es_w wHts))).eq ?_)).eq (by simp)
          rw [mem_hts, hb1]
          show _ = (if 48 ≤ b ∧ b ≤ 53 then some (b - 48) else none : Option Nat).isSome
          by_cases hr : 48 ≤ b ∧ b ≤ 53
          · rw [if_pos hr]; simp [hr]
          · rw [if_neg hr]; simp; omega
        · refine (est_and (b := false) ((est_op hlen).eq (decide_eq_false h1)) fun hc => absurd hc (by simp)).eq ?_
          cases e : hgt (wd.drop (i + 1)) with
          | none => rfl
          | some n =>
            obtain ⟨x, hx, _⟩ := hgt_one e
            rw [hx] at h1
            exact absurd rfl h1
      · simp at hb2
        obtain ⟨h1, h2, h3⟩ := hb2
        obtain ⟨n, hn'⟩ := Option.isSome_iff_exists.mp h3
        obtain ⟨b, b1, b2, b3, rfl⟩ := hgt_one hn'
        have hbi : wd[i + 1]? = some b := by
          have : (wd.drop (i + 1))[0]? = some b := by rw [b1]; rfl
          rwa [List.getElem?_drop, Nat.add_zero] at this
        have hm : hitM wd i = some (.eater (wd.take i) (b - 48)) := by
          unfold hitM
          rw [if_neg n35, if_pos ⟨by rw [hc, h1], h2, h3⟩, hn']
          rfl
        refine rd_ret (d := oT (lone wd ar)) ((es_tup (esa_cons (es_w [101, 97, 116, 101, 114]) (esa_cons (tk (e8.trans e9)) (esa_cons (int_one (es_op (od_ixS (i := ((i + 1 : Nat) : Int)) (by omega) (atI_n hbi)) (es_var (i := 0) rfl (hw7.same (e8.trans e9))) k1) b2 b3) esa_nil)))).eq ?_) fun v H10 e10 hv => q v H10 ((g18.trans e9).trans e10) hv
        rw [hlone, hit_tail hm]
        rfl
      · refine ⟨⟨_, _, rfl⟩, g18.trans e9, fun j hj => ?_⟩
        by_cases e : j = i
        · subst e
          unfold hitM
          rw [if_neg n35, if_neg]
          intro z
          rw [hc] at z
          obtain ⟨z1, z2, z3⟩ := z
          cases z1
          rw [z2, z3] at hb2
          cases hb2
        · exact g2 j (by omega)
  · obtain ⟨⟨z, y, rfl⟩, g1, g2⟩ := g
    dsimp only
    refine rd_ret (d := oT (lone wd ar)) (es_non.eq ?_) fun v H7 e7 hv => q v H7 (g1.trans e7) hv
    rw [hlone, no_tail g2]
    rfl
end
end K83
namespace K83
open PySem
/-! ### how large the machine's lists grow -/
def phi : Wish → Nat
  | .term => 14
  | .row => 12
  | .part => 3
  | .more => 2
  | .inn => 2
  | .binder => 2
  | .build _ => 2
  | .build2 _ => 2
  | .build3 _ => 2
  | _ => 1
def phis (W : List Wish) : Nat := (W.map phi).sum
def Phi (s : LS) : Nat := phis s.wt + 40 * s.ws.length + s.ar.length + s.md.length + s.bg.length
def slack (s : LS) : Nat := match s.wt with
  | .part :: _ => 5
  | .word w :: _ => if hd s.ws = w ∧ s.ws ≠ [] then 40 else 0
  | _ => 0
theorem phis_cons (x : Wish) (W : List Wish) : phis (x :: W) = phi x + phis W := by simp [phis]
theorem phis_len : ∀ W : List Wish, W.length ≤ phis W
  | [] => Nat.le_refl _
  | x :: W => by
    have := phis_len W
    rw [phis_cons, List.length_cons]
    cases x <;> simp only [phi] <;> omega
theorem drop_lt1 {ws : List Wd} (h : hd ws ≠ []) : (ws.drop 1).length + 1 = ws.length := by
  have := drop_lt h (k := 1) (by decide)
  rw [List.length_drop] at this ⊢
  omega
theorem phi_stp {s u : LS} {B : Nat} (h : stp s = some (some u)) (hB : Phi s ≤ B + slack s) : Phi u ≤ B + slack u := by
  obtain ⟨ar, bg, md, wt, ws⟩ := s
  have dle : (ws.drop 1).length ≤ ws.length := drop1_le ws 1
  cases wt with
  | nil => simp [stp] at h
  | cons x W =>
    cases x with
    | over =>
      simp only [stp] at h
      split at h
      · cases h; simp only [Phi, slack, phis_cons, phi] at hB ⊢; omega
      · cases h
    | term =>
      simp only [stp] at h
      cases h
      split
      · rename_i hh
        have hne : hd ws ≠ [] := by rcases hh with h | h <;> rw [h] <;> decide
        have : ws ≠ [] := hd_ne hne
        simp only [Phi, slack, phis_cons, phi, List.cons_append, List.nil_append] at hB ⊢
        rw [if_pos ⟨trivial, this⟩]
        omega
      · simp only [Phi, slack, phis_cons, phi, List.cons_append, List.nil_append] at hB ⊢
        omega
    | row =>
      simp only [stp] at h
      cases h
      split
      · rename_i hh
        simp only [Phi, slack, phis_cons, phi, List.cons_append, List.nil_append] at hB ⊢
        omega
      · split
        · simp only [Phi, slack, phis_cons, phi, List.cons_append, List.nil_append] at hB ⊢
          omega
        · simp only [Phi, slack, phis_cons, phi, List.cons_append, List.nil_append] at hB ⊢
          omega
    | part =>
      simp only [stp] at h
      split at h
      · rename_i hh
        have := drop_lt1 (ws := ws) (by rw [hh]; decide)
        cases h
        simp only [Phi, slack, phis_cons, phi, List.cons_append, List.nil_append] at hB ⊢
        omega
      · split at h
        · cases h
        · rename_i t e
          have := drop_lt1 (lone_ne e)
          cases h
          simp only [Phi, slack, phis_cons, phi, List.length_cons] at hB ⊢
          omega
    | more =>
      simp only [stp] at h
      split at h
      · cases h
        simp only [Phi, slack, phis_cons, phi, List.cons_append, List.nil_append] at hB ⊢
        omega
      · cases h
        simp only [Phi, slack, phis_cons, phi] at hB ⊢
        omega
    | arrow =>
      simp only [stp] at h
      split at h
      · rename_i hh
        have := drop_lt1 (ws := ws) (by rw [hh]; decide)
        cases h
        simp only [Phi, slack, phis_cons, phi, List.cons_append, List.nil_append, List.length_append, List.length_cons, List.length_nil] at hB ⊢
        omega
      · cases h
        simp only [Phi, slack, phis_cons, phi] at hB ⊢
        omega
    | inn =>
      simp only [stp] at h
      split at h
      · cases h
        simp only [Phi, slack, phis_cons, phi, List.length_append, List.length_cons, List.length_nil] at hB ⊢
        omega
      · cases h
    | out =>
      simp only [stp] at h
      split at h
      · cases h
      · cases h
        simp only [Phi, slack, phis_cons, phi, List.length_dropLast] at hB ⊢
        omega
    | binder =>
      simp only [stp] at h
      split at h
      · cases h
      · rename_i k e
        have : hd ws ≠ [] := fun z => by rw [z] at e; simp [bnd] at e
        have := drop_lt1 this
        cases h
        simp only [Phi, slack, phis_cons, phi, List.length_cons] at hB ⊢
        omega
    | word w =>
      simp only [stp] at h
      split at h
      · rename_i hh
        cases h
        by_cases e : ws = []
        · subst e
          simp only [Phi, slack, phis_cons, phi, List.drop_nil] at hB ⊢
          simp at hB
          simp
          omega
        · have : (ws.drop 1).length + 1 = ws.length := by
            cases ws with
            | nil => exact absurd rfl e
            | cons a r => rfl
          simp only [Phi, slack, phis_cons, phi] at hB ⊢
          rw [if_pos ⟨hh, e⟩] at hB
          omega
      · cases h
    | build w =>
      simp only [stp] at h
      split at h
      · cases h
        simp only [Phi, slack, phis_cons, phi, List.length_cons] at hB ⊢
        omega
      · cases h
    | build2 w =>
      simp only [stp] at h
      split at h
      · cases h
        simp only [Phi, slack, phis_cons, phi, List.length_cons] at hB ⊢
        omega
      · cases h
    | build3 w =>
      simp only [stp] at h
      split at h
      · cases h
        simp only [Phi, slack, phis_cons, phi, List.length_cons] at hB ⊢
        omega
      · cases h
end K83
namespace K83
open PySem PySem.Spec PyProof.Rows L2
open C8 (Cal pe_c CalAt)
/-! ### wishes as data -/
def wOver : Wd := [111, 118, 101, 114]
def wTerm : Wd := [116, 101, 114, 109]
def wRow : Wd := [114, 111, 119]
def wPart : Wd := [112, 97, 114, 116]
def wMore : Wd := [109, 111, 114, 101]
def wArrow : Wd := [97, 114, 114, 111, 119]
def wIn : Wd := [105, 110]
def wOut : Wd := [111, 117, 116]
def wBinder : Wd := [98, 105, 110, 100, 101, 114]
def wishD : Wish → PyData
  | .over => wD wOver
  | .term => wD wTerm
  | .row => wD wRow
  | .part => wD wPart
  | .more => wD wMore
  | .arrow => wD wArrow
  | .inn => wD wIn
  | .out => wD wOut
  | .binder => wD wBinder
  | .word w => wD w
  | .build w => .list [wD w]
  | .build2 w => .list [wD w, .int 2]
  | .build3 w => .list [wD w, .int 3]
def wishesD (W : List Wish) : List PyData := (W.map wishD).reverse
def begF (w : Wd) : List Wish := if w = wAll ∨ w = wFun then [.word w, .binder, .word wCol, .term, .word wDot, .inn, .term, .out, .build w] else [.row, .arrow]
def rowF (w : Wd) : List Wish := if w = wSame ∨ w = wPut then [.word w, .part, .part, .part, .build3 w] else if w = wSelf then [.word w, .part, .part, .build2 w] else [.part, .more]
section
variable {P : Program} {w : World} {K : PySem.W.Frag} {mg : Str → Option Value} {base : Heap}
def RBeg : List PyData → PyData → Prop := fun ds d => ∃ (w : Wd) (x : PyData), ds = [wD w, x] ∧ d = .list (wishesD (begF w))
abbrev N_law_begun : List Str := ["word", "state"]
theorem sc_law_begun : FnScope N_law_begun N_law_begun (defScope s_law_begun) := ⟨rfl, rfl, rfl, by decide +kernel, rfl, by decide +kernel, by decide +kernel⟩
theorem c_law_begun (T : Tx w K mg) : Cal P w K mg base 1 "_law_begun" (spD K RBeg) [] := by
  obtain ⟨fd, F⟩ := T.d_law_begun
  refine cal_of F (F.ok sc_law_begun (spD_len fun ds d h => by obtain ⟨_, _, rfl, _⟩ := h; rfl) (fun cdv A outer s H vs Q E hr h => ⟨_, PSs.nox (pss_cons (ps_if (pt_cmpR (op_inK (K := K)) (pv 0) (pe_lst (pa_cons pe_str (pa_cons pe_str pa_nil))) (by rfl)) (pss_one (ps_ret (pe_lst (pa_cons (pe_lst (pa_cons (pv 0) pa_nil)) (pa_cons pe_str (pa_cons pe_str (pa_cons pe_str (pa_cons pe_str (pa_cons pe_str (pa_cons pe_str (pa_cons pe_str (pa_cons (pv 0) pa_nil)))))))))))) pss_nil)
    (pss_one (ps_ret (pe_lst (pa_cons pe_str (pa_cons pe_str pa_nil)))))), ?_⟩)) T.g_law_begun
    fun _ _ _ _ _ _ us hl => match us, hl with | [_, _], _ => rfl
  obtain ⟨ds, d, hvs, ⟨wd, x, rfl, rfl⟩, q⟩ := h
  cases hvs with
  | @cons v1 _ _ _ hword hvs =>
  obtain ⟨v2, rfl, hst⟩ := hvs.one_inv
  refine rd_if (est_op (es_op (od_in (ws := [wAll, wFun])) (es_var rfl hword) (es_lst (esa_cons (es_w wAll) (esa_cons (es_w wFun) esa_nil))))) (fun H2 e2 hb => ?_) (fun H2 e2 hb => ?_)
  · refine rd_ret ((es_lst (esa_cons (es_lst (esa_cons (es_var rfl (hword.same e2)) esa_nil)) (esa_cons (es_w wOut) (esa_cons (es_w wTerm) (esa_cons (es_w wIn) (esa_cons (es_w wDot) (esa_cons (es_w wTerm) (esa_cons (es_w wCol) (esa_cons (es_w wBinder) (esa_cons (es_var rfl (hword.same e2)) esa_nil)))))))))).eq ?_) fun v H3 e3 hv => q v H3 (e2.trans e3) hv
    unfold begF
    rw [if_pos (by simpa using hb)]
    rfl
  · refine rd_ret (σ := [some v1, some v2]) ((es_lst (esa_cons (es_w wArrow) (esa_cons (es_w wRow) esa_nil))).eq ?_) fun v H3 e3 hv => q v H3 (e2.trans e3) hv
    unfold begF
    rw [if_neg (by simpa using hb)]
    rfl
def RRowW : List PyData → PyData → Prop := fun ds d => ∃ (w : Wd), ds = [wD w] ∧ d = .list (wishesD (rowF w))
abbrev N_law_row : List Str := ["word"]
theorem sc_law_row : FnScope N_law_row N_law_row (defScope s_law_row) := ⟨rfl, rfl, rfl, by decide +kernel, rfl, by decide +kernel, by decide +kernel⟩
theorem c_law_row (T : Tx w K mg) : Cal P w K mg base 1 "_law_row" (spD K RRowW) [] := by
  obtain ⟨fd, F⟩ := T.d_law_row
  refine cal_of F (F.ok sc_law_row (spD_len fun ds d h => by obtain ⟨_, rfl, _⟩ := h; rfl) (fun cdv A outer s H vs Q E hr h => ⟨_, PSs.nox (pss_cons (ps_if (pt_cmpR (op_inK (K := K)) (pv 0) (pe_lst (pa_cons pe_str (pa_cons pe_str pa_nil))) (by rfl)) (pss_one (ps_ret (pe_lst (pa_cons (pe_lst (pa_cons (pv 0) (pa_cons pe_int pa_nil))) (pa_cons pe_str (pa_cons pe_str (pa_cons pe_str (pa_cons (pv 0) pa_nil)))))))) pss_nil)
    (pss_cons (ps_if (pt_cmpR op_eq (pv 0) pe_str (nomark _)) (pss_one (ps_ret (pe_lst (pa_cons (pe_lst (pa_cons (pv 0) (pa_cons pe_int pa_nil))) (pa_cons pe_str (pa_cons pe_str (pa_cons (pv 0) pa_nil))))))) pss_nil)
    (pss_one (ps_ret (pe_lst (pa_cons pe_str (pa_cons pe_str pa_nil))))))), ?_⟩)) T.g_law_row
    fun _ _ _ _ _ _ us hl => match us, hl with | [_], _ => rfl
  obtain ⟨ds, d, hvs, ⟨wd, rfl, rfl⟩, q⟩ := h
  obtain ⟨v, rfl, hword⟩ := hvs.one_inv
  refine rd_if (est_op (es_op (od_in (ws := [wSame, wPut])) (es_var rfl hword) (es_lst (esa_cons (es_w wSame) (esa_cons (es_w wPut) esa_nil))))) (fun H2 e2 hb => ?_) (fun H2 e2 hb => ?_)
  · refine rd_ret ((es_lst (esa_cons (es_lst (esa_cons (es_var rfl (hword.same e2)) (esa_cons es_int esa_nil))) (esa_cons (es_w wPart) (esa_cons (es_w wPart) (esa_cons (es_w wPart) (esa_cons (es_var rfl (hword.same e2)) esa_nil)))))).eq ?_) fun v H3 e3 hv => q v H3 (e2.trans e3) hv
    unfold rowF
    rw [if_pos (by simpa using hb)]
    rfl
  · refine rd_if (est_op (es_op od_eqW (es_var rfl (hword.same e2)) (es_w wSelf))) (fun H3 e3 hb2 => ?_) (fun H3 e3 hb2 => ?_)
    · refine rd_ret ((es_lst (esa_cons (es_lst (esa_cons (es_var rfl (hword.same (e2.trans e3))) (esa_cons es_int esa_nil))) (esa_cons (es_w wPart) (esa_cons (es_w wPart) (esa_cons (es_var rfl (hword.same (e2.trans e3))) esa_nil))))).eq ?_) fun v H4 e4 hv => q v H4 ((e2.trans e3).trans e4) hv
      unfold rowF
      rw [if_neg (by simpa using hb), if_pos (by simpa using hb2)]
      rfl
    · refine rd_ret (σ := [some v]) ((es_lst (esa_cons (es_w wMore) (esa_cons (es_w wPart) esa_nil))).eq ?_) fun v H4 e4 hv => q v H4 ((e2.trans e3).trans e4) hv
      unfold rowF
      rw [if_neg (by simpa using hb), if_neg (by simpa using hb2)]
      rfl
/-! _law_built -/
/-- a list that gets what was built: the new one -/
def builtF : Wish → List T → Option (List T)
  | .build w, y :: x :: m => some (.n2 w x y :: m)
  | .build2 w, y :: x :: m => some (.n2 w x y :: m)
  | .build3 w, z :: y :: x :: m => some (.n3 w x y z :: m)
  | _, _ => none
def madeD (md : List T) : List PyData := (md.map T.data).reverse
theorem builtF_inv {x : Wish} {md md' : List T} (h : builtF x md = some md') : ∃ (wd : Wd) (fr : List PyData) (rest top : List T) (t : T), wishD x = .list (wD wd :: fr) ∧ ((fr = [] ∧ top.length = 2) ∨ fr = [.int (top.length : Nat)]) ∧ top.length ≤ 3 ∧
    madeD md = madeD rest ++ top.map T.data ∧ md' = t :: rest ∧ t.data = .tuple (wD wd :: top.map T.data) := by
  unfold builtF at h
  split at h
  · rename_i wd y x m
    cases h
    exact ⟨wd, [], m, [x, y], _, rfl, .inl ⟨rfl, rfl⟩, by simp, by simp [madeD], rfl, rfl⟩
  · rename_i wd y x m
    cases h
    exact ⟨wd, [.int 2], m, [x, y], _, rfl, .inr rfl, by simp, by simp [madeD], rfl, rfl⟩
  · rename_i wd z y x m
    cases h
    exact ⟨wd, [.int 3], m, [x, y, z], _, rfl, .inr rfl, by simp, by simp [madeD], rfl, rfl⟩
  · cases h
def spBuilt (K : PySem.W.Frag) : Sp := fun vs H Q _ => ∃ (f m : V) (x : Wish) (md md' : List T), vs = [f, m] ∧ Dt K H f (wishD x) ∧ Dt K H m (.list (madeD md)) ∧ builtF x md = some md' ∧ md.length ≤ 50000 ∧
  ∀ p H2 xs, Same H H2 → H p = none → H2 p = some (.lst xs) → DtA K H2 xs (madeD md') → Q (.ref p) H2
abbrev N_law_built : List Str := ["form", "made", "wide", "some"]
abbrev P_law_built : List Str := ["form", "made"]
theorem sc_law_built : FnScope N_law_built P_law_built (defScope s_law_built) := ⟨rfl, rfl, rfl, by decide +kernel, rfl, by decide +kernel, by decide +kernel⟩
theorem c_law_built (T : Tx w K mg) : Cal P w K mg base 1 "_law_built" (spBuilt K) [] := by
  obtain ⟨fd, F⟩ := T.d_law_built
  refine cal_of F (F.ok sc_law_built (fun vs H Q E h => by obtain ⟨_, _, _, _, _, rfl, _⟩ := h; rfl) (fun cdv A outer s H vs Q E hr h => ⟨_, PSs.nox (pss_cons (ps_set (i := 2) sc_law_built.nd rfl (Or.inl rfl) (pe_ifExp (pt_cmpR op_eq (pe_callB (call_lenK (K := K)) rfl T.n_len PySem.boot_len (pa_cons (pv 0) pa_nil)) pe_int (nomark _)) pe_int (pe_ix (ix_listK (K := K)) (pv 0) pe_int (fun _ _ => rfl))))
    (pss_cons (ps_set (i := 3) sc_law_built.nd rfl (Or.inl rfl) (pe_slice (sl_listK (K := K)) (pv 1) (po_some (pe_op op_sub (pe_callB (call_lenK (K := K)) rfl T.n_len PySem.boot_len (pa_cons (pv 1) pa_nil)) (pv 2))) po_none))
    (pss_one (ps_ret (pe_op op_cat (pe_slice (sl_listK (K := K)) (pv 1) po_none (po_some (pe_op op_sub (pe_callB (call_lenK (K := K)) rfl T.n_len PySem.boot_len (pa_cons (pv 1) pa_nil)) (pv 2)))) (pe_lst (pa_cons (pe_op (op_catK (K := K)) (pe_tup (pa_cons (pe_ix (ix_listK (K := K)) (pv 0) pe_int (fun _ _ => rfl)) pa_nil)) (pe_callTy (call_tupK (K := K)) rfl T.n_tuple b_tuple (pa_cons (pv 3) pa_nil))) pa_nil))))))), ?_⟩)) T.g_law_built
    fun _ _ _ _ _ _ us hl => match us, hl with | [_, _], _ => rfl
  obtain ⟨f, m, x, md, md', rfl, hform, hmade, hb, hlen, q⟩ := h
  obtain ⟨wd, fr, rest, top, t, hx, hk, hk3, hmd, rfl, ht⟩ := builtF_inv hb
  rw [hx] at hform
  have hdl : (madeD md).length = md.length := by simp [madeD]
  have hrl : (madeD rest).length + top.length = md.length := by rw [← hdl, hmd]; simp
  refine rd_set (d := .int (top.length : Nat)) (es_if (c := decide (fr = [])) ((est_op (es_op od_eqI (es_b cb_lenL (esa_cons (es_var (i := 0) rfl hform) esa_nil)) es_int)).eq ?_) (fun hc => es_int.eq ?_) (fun hc => es_op (od_ixL (i := 1) (atI_nat (j := 1) ?_)) (es_var (i := 0) rfl hform) es_int)) fun vk H2 e2 hvk => ?_
  · rcases hk with ⟨rfl, h2⟩ | rfl
    · rfl
    · rfl
  · rcases hk with ⟨rfl, h2⟩ | rfl
    · rw [h2]; rfl
    · simp at hc
  · rcases hk with ⟨rfl, h2⟩ | rfl
    · simp at hc
    · rfl
  obtain rfl := dt_int hvk
  have em : ∀ {H'} , Same H H' → ∀ {z : Option V}, Es K (tOp (rI0 fun i j => .int (i - j)) (tCB (rLen K) (tCons (tVar 1) tNil)) (tVar 2)) [some f, some m, some (.int (top.length : Nat)), z] H' (.int ((madeD rest).length : Nat)) := fun {H'} e {z} => (es_op od_sub (es_b cb_lenL (esa_cons (es_var (i := 1) rfl (hmade.same e)) esa_nil)) (es_var (i := 2) rfl (.int _))).eq (by congr 1; omega)
  refine rd_set (d := .list (top.map K83.T.data)) ((es_sl sd_list (es_var (i := 1) rfl (hmade.same e2)) (eso_some (K := K) (em e2)) eso_no).eq (by rw [cut_from, hmd, List.drop_left])) fun vsm H3 e3 hsome => ?_
  have e23 := e2.trans e3
  refine Es.at (K := K) (d := .list (madeD rest)) ((es_sl sd_list (es_var (i := 1) rfl (hmade.same e23)) eso_no (eso_some (K := K) (em e23))).eq (by rw [cut_to, hmd, List.take_left])) fun va H4 e4 ha => ?_
  refine Es.at (K := K) (d := .list [t.data]) ((es_lst (esa_cons (es_op (od_catT (by simp; omega)) (es_tup (esa_cons (es_op (od_ixL atI_0) (es_var (i := 0) rfl (hform.same (e23.trans e4))) es_int) esa_nil)) (es_b cb_tupL (esa_cons (es_var (i := 3) rfl (hsome.same e4)) esa_nil))) esa_nil)).eq (by rw [ht]; rfl)) fun vb H5 e5 hb5 => ?_
  have ha5 := ha.same e5
  cases ha5 with
  | @lst pa xa _ ha1 ha2 =>
  cases hb5 with
  | @lst pb xb _ hb1 hb2 =>
  refine ⟨pa, pb, xa, xb, rfl, rfl, ha1, hb1, ?_, fun p hp => ?_⟩
  · rw [ha2.len, hb2.len]
    exact len_small (by simp; omega)
  · have e05 := (e23.trans e4).trans e5
    refine q p _ (xa ++ xb) (e05.trans (same_new hp _)) (e05.free hp) upd_same ?_
    have := (ha2.app hb2).same (same_new hp (.lst (xa ++ xb)))
    rw [show madeD (t :: rest) = madeD rest ++ [t.data] by simp [madeD]]
    exact this
end
end K83
namespace K83
open PySem PySem.Spec PyProof.Rows L2
open C8 (Cal pe_c CalAt)
section
variable {P : Program} {w : World} {K : PySem.W.Frag} {mg : Str → Option Value} {base : Heap}
/-! ### _law_met -/
def spMet (K : PySem.W.Frag) : Sp := fun vs H Q _ => ∃ (wish wd : Wd) (st pa pb pm : Addr) (ar : Ar) (bs ms : List V), vs = [wV wish, wV wd, .ref st] ∧ H st = some (.lst [.ref pa, .ref pb, .ref pm]) ∧ H pa = some (.lst (ar.map aV)) ∧ H pb = some (.lst bs) ∧ H pm = some (.lst ms) ∧
  bs.length ≤ 90000 ∧ ms.length ≤ 90000 ∧ wd.length ≤ 4000 ∧ Cp wd ∧ 78 ∉ wd ∧ ArOk ar ∧ ar.length ≤ 50000 ∧
  (wish = wBinder → ∀ H2, Same H H2 → Q (.bl (bnd wd).isSome) (upd H2 pb (.lst (bs ++ [aV (bnd wd)])))) ∧
  (wish = wPart → ∀ H2 v, Same H H2 → Dt K H2 v (oT (lone wd ar)) → Q (.bl (lone wd ar).isSome) (upd H2 pm (.lst (ms ++ [v])))) ∧
  (wish ≠ wBinder → wish ≠ wPart → ∀ H2, Same H H2 → Q (.bl (decide (wd = wish))) H2)
abbrev N_law_met : List Str := ["wish", "word", "state", "around", "begun", "made", "number", "term"]
abbrev P_law_met : List Str := ["wish", "word", "state"]
theorem sc_law_met : FnScope N_law_met P_law_met (defScope s_law_met) := ⟨rfl, rfl, rfl, by decide +kernel, rfl, by decide +kernel, by decide +kernel⟩
theorem non_a (o : Option Nat) : (!decide (aV o = V.non)) = o.isSome := by cases o <;> rfl
theorem c_law_met (T : Tx w K mg) : Cal P w K mg base 3 "_law_met" (spMet K) [] := by
  obtain ⟨fd, F⟩ := T.d_law_met
  have c_law_lone := c_law_lone (P := P) (base := base) T
  have c_law_figures := c_law_figures (P := P) (base := base) T
  refine cal_of F (F.ok sc_law_met (fun vs H Q E h => by obtain ⟨_, _, _, _, _, _, _, _, _, rfl, _⟩ := h; rfl) (fun cdv A outer s H vs Q E hr h => ⟨_, PSs.nox (pss_cons (ps_asg (pv 2) (pg_lst (n := 3) (by rfl) (pgs_cons (pg_name (i := 3) sc_law_met.nd rfl (Or.inl rfl)) (pgs_cons (pg_name (i := 4) sc_law_met.nd rfl (Or.inl rfl)) (pgs_cons (pg_name (i := 5) sc_law_met.nd rfl (Or.inl rfl)) pgs_nil)))))
    (pss_cons (ps_if (pt_cmpR op_eq (pv 0) pe_str (nomark _)) (pss_cons (ps_set (i := 6) sc_law_met.nd rfl (Or.inl rfl) (pe_ifExp (pt_cmpR op_eq (pe_slice C8.sl_txt (pv 1) po_none (po_some pe_int)) pe_str (nomark _)) (pe_c c_law_figures hr (by decide) rfl (pa_cons (pe_slice C8.sl_txt (pv 1) (po_some pe_int) po_none) (pa_cons pe_int pa_nil))) pe_non))
    (pss_cons (ps_expr (pe_bm PySem.F.plainAttrs_list PySem.F.slot_list_append PySem.F.type_list_append mt_append (pv 4) (pa_cons (pv 6) pa_nil)))
    (pss_one (ps_ret (pe_cmpR op_isNotK (pv 6) pe_non (nomark _)))))) pss_nil)
    (pss_cons (ps_if (pt_cmpR op_eq (pv 0) pe_str (nomark _)) (pss_cons (ps_set (i := 7) sc_law_met.nd rfl (Or.inl rfl) (pe_c c_law_lone hr (by decide) rfl (pa_cons (pv 1) (pa_cons (pv 3) pa_nil))))
    (pss_cons (ps_expr (pe_bm PySem.F.plainAttrs_list PySem.F.slot_list_append PySem.F.type_list_append mt_append (pv 5) (pa_cons (pv 7) pa_nil)))
    (pss_one (ps_ret (pe_cmpR op_isNotK (pv 7) pe_non (nomark _)))))) pss_nil)
    (pss_one (ps_ret (pe_cmpR op_eq (pv 1) (pv 0) (nomark _))))))), ?_⟩)) T.g_law_met
    fun _ _ _ _ _ _ us hl => match us, hl with | [_, _, _], _ => rfl
  obtain ⟨wish, wd, st, pa, pb, pm, ar, bs, ms, rfl, hst, ha, hb, hm, lb, lm, hwl, hcp, hN, hao, har, q1, q2, q3⟩ := h
  refine ⟨_, rfl, st, _, rfl, SqL.of hst, rfl, _, _, rfl, _, _, rfl, _, _, rfl, rfl, ?_⟩
  refine rd_if (est_op (es_op od_eqW (es_var (K := K) (i := 0) rfl (dt_w wish)) (es_w wBinder))) (fun H2 e2 hb1 => ?_) (fun H2 e2 hb1 => ?_)
  · have hw : wish = wBinder := by simpa using hb1
    refine rd_set (d := aD (bnd wd)) (es_if (K := K) (est_op (K := K) (es_op od_eqW (es_sl (sl_to1 hwl) (es_var (i := 1) rfl (dt_w wd)) eso_no eso_int) (es_w [120]))) (fun hc => (es_c (esa_cons (es_sl (sl_1 hwl) (es_var (i := 1) rfl (dt_w wd)) eso_int eso_no) (esa_cons es_int esa_nil)) ⟨wd.drop 1, 3, rfl, by rw [List.length_drop]; omega, by decide, hcp.drop 1, ?_⟩)) (fun hc => es_non.eq ?_)) fun vn H3 e3 hvn => ?_
    · rw [decide_eq_true_eq, take1] at hc
      unfold bnd
      rw [if_pos hc]
    · rw [decide_eq_false_iff_not, take1] at hc
      unfold bnd
      rw [if_neg hc]
      rfl
    have hvn' : vn = aV (bnd wd) := by
      cases hx : bnd wd with
      | none => rw [hx] at hvn; cases hvn; rfl
      | some n => rw [hx] at hvn; cases hvn; rfl
    subst hvn'
    have e23 := e2.trans e3
    refine ⟨_, rfl, .inl ⟨rfl, _, SqL.of (e23 _ _ hb)⟩, _, rfl, pb, bs, _, rfl, rfl, e23 _ _ hb, len_lt (by omega), ?_⟩
    refine ⟨_, rfl, rfl, ?_⟩
    rw [non_a]
    exact q1 hw H3 e23
  have n1 : wish ≠ wBinder := by simpa using hb1
  refine rd_if (est_op (es_op od_eqW (es_var (K := K) (i := 0) rfl (dt_w wish)) (es_w wPart))) (fun H3 e3 hb2 => ?_) (fun H3 e3 hb2 => ?_)
  · have hw : wish = wPart := by simpa using hb2
    have e23 := e2.trans e3
    refine rd_set (es_c (K := K) (esa_cons (es_var (i := 1) rfl (dt_w wd)) (esa_cons (es_var (i := 3) rfl (.lst (e23 _ _ ha) (dt_ar ar))) esa_nil)) ⟨wd, ar, rfl, hwl, hcp, hN, hao, har, rfl⟩) fun vt H4 e4 hvt => ?_
    have e24 := e23.trans e4
    refine ⟨_, rfl, .inl ⟨rfl, _, SqL.of (e24 _ _ hm)⟩, _, rfl, pm, ms, _, rfl, rfl, e24 _ _ hm, len_lt (by omega), ?_⟩
    refine ⟨_, rfl, rfl, ?_⟩
    have := q2 hw H4 vt e24 hvt
    rw [dt_isNone hvt, oT_none]
    cases h : lone wd ar with
    | none => rw [h] at this; exact this
    | some t => rw [h] at this; exact this
  have n2 : wish ≠ wPart := by simpa using hb2
  refine (es_op (K := K) od_eqW (es_var (i := 1) rfl (dt_w wd)) (es_var (i := 0) rfl (dt_w wish))).at fun v H4 e4 hv => ?_
  cases hv
  exact q3 n1 n2 H4 ((e2.trans e3).trans e4)
end
end K83
namespace K83
open PySem PySem.Spec PyProof.Rows L2
open C8 (Cal pe_c CalAt)
/-! ### the machine's lists in the heap -/
def formWs : List Wd := [wAll, wFun, wApp, wSelf, wSame, wPut]
def tokWs : List Wd := [wAll, wFun, wCol, wDot, wSame, wPut, wSelf, wCls]
def okW : Wish → Prop
  | .word w => w ∈ tokWs
  | .build w => w ∈ formWs
  | .build2 w => w ∈ formWs
  | .build3 w => w ∈ formWs
  | _ => True
def Sep (ys : List V) : Prop := ∀ w ∈ formWs, ys.head? ≠ some (wV w)
section
variable {K : PySem.W.Frag} {H H' : Hp} {p : Addr} {ys : List V}
theorem wish_mo (e : Mo p H H') (hp : H p = some (.lst ys)) (hs : Sep ys) {x : Wish} {v : V} (ok : okW x) (h : Dt K H v (wishD x)) : Dt K H' v (wishD x) := by
  have key : ∀ {w : Wd} {fr : List PyData}, w ∈ formWs → (∀ {vs : List V}, DtA K H vs fr → DtA K H' vs fr) → Dt K H v (.list (wD w :: fr)) → Dt K H' v (.list (wD w :: fr)) := fun {w fr} hw hfr h => by
    cases h with
    | @lst a xs _ hl hr =>
      cases hr with
      | cons h1 h2 =>
        cases h1
        refine .lst (e a _ (fun z => ?_) hl) (.cons (.str _) (hfr h2))
        rw [z, hp] at hl
        cases hl
        exact hs w hw rfl
  cases x with
  | build w => exact key ok (fun h => by cases h; exact .nil) h
  | build2 w => exact key ok (fun {vs} h8 => (by obtain ⟨v9, rfl, h9⟩ := h8.one_inv; cases h9; exact .one (.int _))) h
  | build3 w => exact key ok (fun {vs} h8 => (by obtain ⟨v9, rfl, h9⟩ := h8.one_inv; cases h9; exact .one (.int _))) h
  | _ => cases h; exact .str _
theorem wishes_mo (e : Mo p H H') (hp : H p = some (.lst ys)) (hs : Sep ys) : ∀ {W : List Wish} {xs : List V}, (∀ x ∈ W, okW x) → DtA K H xs (W.map wishD) → DtA K H' xs (W.map wishD)
  | [], _, _, h => by cases h; exact .nil
  | x :: W, _, ok, h => by
    cases h with
    | cons h1 h2 => exact .cons (wish_mo e hp hs (ok x List.mem_cons_self) h1) (wishes_mo e hp hs (fun y hy => ok y (List.mem_cons_of_mem _ hy)) h2)
theorem wishesR_mo (e : Mo p H H') (hp : H p = some (.lst ys)) (hs : Sep ys) {W : List Wish} {xs : List V} (ok : ∀ x ∈ W, okW x) (h : DtA K H xs (wishesD W)) : DtA K H' xs (wishesD W) := by
  unfold wishesD at h ⊢
  rw [← List.map_reverse] at h ⊢
  exact wishes_mo e hp hs (fun x hx => ok x (List.mem_reverse.mp hx)) h
theorem flat_made (md : List T) : flatTs (madeD md) = true := by
  unfold madeD
  rw [← List.map_reverse]
  exact flat_terms _
theorem sep_ar (ar : Ar) : Sep (ar.map aV) := fun w _ h => by
  cases ar with
  | nil => cases h
  | cons o r => cases o <;> cases h
theorem sep_bg (bg : List Nat) : Sep ((bg.map fun n : Nat => V.int (n : Int)).reverse) := fun w _ h => by
  have := List.mem_of_mem_head? h
  rw [List.mem_reverse] at this
  obtain ⟨n, _, hn⟩ := List.mem_map.mp this
  cases hn
theorem sep_made {md : List T} {ms : List V} (h : DtA K H ms (madeD md)) : Sep ms := fun w _ e => by
  cases ms with
  | nil => cases e
  | cons v r =>
    cases e
    unfold madeD at h
    rw [← List.map_reverse] at h
    cases hr : md.reverse with
    | nil => rw [hr] at h; cases h
    | cons t q =>
      rw [hr] at h
      cases h with
      | cons h1 h2 => cases t <;> cases h1
theorem sep_wt {W : List Wish} {xs : List V} (h : DtA K H xs (wishesD W)) (bot : W = [] ∨ W.getLast? = some .over) : Sep xs := fun w hw e => by
  rcases bot with rfl | hl
  · cases h; cases e
  · have hne : W ≠ [] := by rintro rfl; cases hl
    have e1 : (wishesD W).head? = some (wD wOver) := by
      unfold wishesD
      rw [List.head?_reverse, List.getLast?_map, hl]
      rfl
    cases xs with
    | nil => cases e
    | cons v r =>
      cases e
      cases hd : wishesD W with
      | nil => rw [hd] at e1; cases e1
      | cons d ds =>
        rw [hd] at e1 h
        cases e1
        cases h with
        | cons h1 h2 =>
          have h3 : w = wOver := by
            have : V.str (S w) = V.str (S w) := rfl
            cases h1
            rfl
          rw [h3] at hw
          exact absurd hw (by decide)
theorem lay_wish {x : Wish} (h : okW x) : PyData.canLay0 (wishD x) = true := by
  have wl : ∀ w ∈ formWs ++ tokWs, PyData.canLay0 (wD w) = true := fun w hw => lay_w (by
    have : ∀ w ∈ formWs ++ tokWs, ∀ c ∈ w, c < 0x110000 := by decide
    exact this w hw)
  have il : ∀ i : Int, PyData.canLay0 (.int i) = true := fun i => by unfold PyData.canLay0; rfl
  cases x with
  | word w => exact wl w (List.mem_append_right _ h)
  | build w => simp only [wishD, PyData.canLay0, PyData.canLayAll0, wl w (List.mem_append_left _ h)]; rfl
  | build2 w => simp only [wishD, PyData.canLay0, PyData.canLayAll0, wl w (List.mem_append_left _ h)]; rfl
  | build3 w => simp only [wishD, PyData.canLay0, PyData.canLayAll0, wl w (List.mem_append_left _ h)]; rfl
  | _ => exact lay_w (by decide)
theorem lay_all : ∀ {ds : List PyData}, (∀ d ∈ ds, PyData.canLay0 d = true) → PyData.canLayAll0 ds = true
  | [], _ => rfl
  | d :: ds, h => by simp only [PyData.canLayAll0, h d List.mem_cons_self, lay_all fun x hx => h x (List.mem_cons_of_mem _ hx), Bool.and_true]
theorem lay_wishes {W : List Wish} (h : ∀ x ∈ W, okW x) : PyData.canLay0 (.list (wishesD W)) = true := by
  show PyData.canLayAll0 _ = true
  refine lay_all fun d hd => ?_
  unfold wishesD at hd
  rw [List.mem_reverse] at hd
  obtain ⟨x, hx, rfl⟩ := List.mem_map.mp hd
  exact lay_wish (h x hx)
theorem wishesD_cons (x : Wish) (W : List Wish) : wishesD (x :: W) = wishesD W ++ [wishD x] := by simp [wishesD]
theorem wishesD_app (A B : List Wish) : wishesD (A ++ B) = wishesD B ++ wishesD A := by simp [wishesD]
theorem DtA.snoc {xs : List V} {ds : List PyData} {d : PyData} (h : DtA K H xs (ds ++ [d])) : ∃ ys v, xs = ys ++ [v] ∧ DtA K H ys ds ∧ Dt K H v d := by
  have hl := h.len
  simp at hl
  have hne : xs ≠ [] := by rintro rfl; simp at hl
  have h1 := h.take ds.length
  have h2 := h.drop ds.length
  rw [List.take_left] at h1
  rw [List.drop_left] at h2
  obtain ⟨v, hv, hd⟩ := h2.one_inv
  exact ⟨xs.take ds.length, v, by rw [← hv, List.take_append_drop], h1, hd⟩
end
theorem okW_beg (w : Wd) : ∀ x ∈ begF w, okW x := by
  unfold begF
  split
  · rename_i h
    intro x hx
    have h1 : w ∈ tokWs := by rcases h with rfl | rfl <;> decide
    have h2 : w ∈ formWs := by rcases h with rfl | rfl <;> decide
    simp only [List.mem_cons, List.not_mem_nil, or_false] at hx
    rcases hx with rfl | rfl | rfl | rfl | rfl | rfl | rfl | rfl | rfl <;> first | exact h1 | exact h2 | trivial | (show _ ∈ tokWs; decide)
  · intro x hx
    simp only [List.mem_cons, List.not_mem_nil, or_false] at hx
    rcases hx with rfl | rfl <;> trivial
theorem okW_row (w : Wd) : ∀ x ∈ rowF w, okW x := by
  unfold rowF
  split
  · rename_i h
    intro x hx
    have h1 : w ∈ tokWs := by rcases h with rfl | rfl <;> decide
    have h2 : w ∈ formWs := by rcases h with rfl | rfl <;> decide
    simp only [List.mem_cons, List.not_mem_nil, or_false] at hx
    rcases hx with rfl | rfl | rfl | rfl | rfl <;> first | exact h1 | exact h2 | trivial
  · split
    · rename_i h
      intro x hx
      have h1 : w ∈ tokWs := by rw [h]; decide
      have h2 : w ∈ formWs := by rw [h]; decide
      simp only [List.mem_cons, List.not_mem_nil, or_false] at hx
      rcases hx with rfl | rfl | rfl | rfl <;> first | exact h1 | exact h2 | trivial
    · intro x hx
      simp only [List.mem_cons, List.not_mem_nil, or_false] at hx
      rcases hx with rfl | rfl <;> trivial
end K83
namespace K83
open PySem PySem.Spec PyProof.Rows L2
open C8 (Cal pe_c CalAt)
theorem rd_no {tt : TT} {u1 u2 : TS} {D : L2.Ends} {σ : L2.St} {H : Hp} {b : Bool} (h : EsT tt σ H b) (hb : b = false) (q : ∀ H2, Same H H2 → u2 D σ H2) : tIfS tt u1 u2 D σ H := rd_if h (fun _ _ e => by rw [hb] at e; cases e) fun H2 e2 _ => q H2 e2
theorem rd_yes {tt : TT} {u1 u2 : TS} {D : L2.Ends} {σ : L2.St} {H : Hp} {b : Bool} (h : EsT tt σ H b) (hb : b = true) (q : ∀ H2, Same H H2 → u1 D σ H2) : tIfS tt u1 u2 D σ H := rd_if h (fun H2 e2 _ => q H2 e2) fun _ _ e => by rw [hb] at e; cases e
/-- where the machine's lists lie -/
structure MI (K : PySem.W.Frag) (H0 H : Hp) (ws0 : List Wd) (pw pa pb pm : Addr) (xs ms : List V) (s : LS) (k : Nat) : Prop where
  same : Same H0 H
  nw : H0 pw = none
  na : H0 pa = none
  nb : H0 pb = none
  nm : H0 pm = none
  wa : pw ≠ pa
  wb : pw ≠ pb
  wm : pw ≠ pm
  ab : pa ≠ pb
  am : pa ≠ pm
  bm : pb ≠ pm
  hw : H pw = some (.lst xs)
  dw : DtA K H xs (wishesD s.wt)
  ha : H pa = some (.lst (s.ar.map aV))
  hb : H pb = some (.lst (s.bg.map fun n : Nat => V.int (n : Int)).reverse)
  hm : H pm = some (.lst ms)
  dm : DtA K H ms (madeD s.md)
  hk : s.ws = ws0.drop k
  kl : k ≤ ws0.length
  okw : ∀ x ∈ s.wt, okW x
  bot : s.wt = [] ∨ s.wt.getLast? = some .over
  aro : ArOk s.ar
  bgo : ∀ b ∈ s.bg, b < 1000
section
variable {K : PySem.W.Frag} {H0 H H' : Hp} {ws0 : List Wd} {k : Nat} {pw pa pb pm : Addr} {xs ms : List V} {s : LS}
theorem MI.sm (I : MI K H0 H ws0 pw pa pb pm xs ms s k) (e : Same H H') : MI K H0 H' ws0 pw pa pb pm xs ms s k :=
  { I with same := I.same.trans e, hw := e _ _ I.hw, dw := I.dw.same e, ha := e _ _ I.ha, hb := e _ _ I.hb, hm := e _ _ I.hm, dm := I.dm.same e }
theorem slack_le (s : LS) : slack s ≤ 40 := by
  unfold slack
  split
  · decide
  · split <;> decide
  · decide
theorem phi_lens {s : LS} {B : Nat} (h1 : Phi s ≤ B + slack s) (hB : B ≤ 49000) : s.ar.length ≤ 50000 ∧ s.md.length ≤ 50000 ∧ s.bg.length ≤ 50000 ∧ s.wt.length ≤ 50000 := by
  have h2 := slack_le s
  have h3 := phis_len s.wt
  unfold Phi at h1
  omega
/-- words of the machine -/
theorem MI.word (I : MI K H0 H ws0 pw pa pb pm xs ms s k) : hd s.ws = hd (ws0.drop k) := by rw [I.hk]
/-- what is written at pw -/
theorem MI.putW (I : MI K H0 H ws0 pw pa pb pm xs ms s k) {ys : List V} {W : List Wish} {k' : Nat} (hy : DtA K H ys (wishesD W)) (ok : ∀ x ∈ W, okW x) (bot : W = [] ∨ W.getLast? = some .over) {ws : List Wd} (hk : ws = ws0.drop k') (kl : k' ≤ ws0.length)  :
    MI K H0 (upd H pw (.lst ys)) ws0 pw pa pb pm ys ms { s with wt := W, ws := ws } k' :=
  { same := same_own I.same I.nw _, nw := I.nw, na := I.na, nb := I.nb, nm := I.nm, wa := I.wa, wb := I.wb, wm := I.wm, ab := I.ab, am := I.am, bm := I.bm,
    hw := upd_same, dw := wishesR_mo (e := Mo.upd) I.hw (sep_wt I.dw I.bot) ok hy, ha := by rw [upd_ne I.wa.symm]; exact I.ha, hb := by rw [upd_ne I.wb.symm]; exact I.hb, hm := by rw [upd_ne I.wm.symm]; exact I.hm,
    dm := I.dm.tk ((Mo.upd (b := pw)).tk I.hw) (flat_made _), hk := hk, kl := kl, okw := ok, bot := bot, aro := I.aro, bgo := I.bgo }
/-- what is written at pa -/
theorem MI.putA (I : MI K H0 H ws0 pw pa pb pm xs ms s k) {ar : Ar} (ao : ArOk ar)  : MI K H0 (upd H pa (.lst (ar.map aV))) ws0 pw pa pb pm xs ms { s with ar := ar } k :=
  { same := same_own I.same I.na _, nw := I.nw, na := I.na, nb := I.nb, nm := I.nm, wa := I.wa, wb := I.wb, wm := I.wm, ab := I.ab, am := I.am, bm := I.bm,
    hw := by rw [upd_ne I.wa]; exact I.hw, dw := wishesR_mo (e := Mo.upd) I.ha (sep_ar _) I.okw I.dw, ha := upd_same, hb := by rw [upd_ne I.ab.symm]; exact I.hb, hm := by rw [upd_ne I.am.symm]; exact I.hm,
    dm := I.dm.tk ((Mo.upd (b := pa)).tk I.ha) (flat_made _), hk := I.hk, kl := I.kl, okw := I.okw, bot := I.bot, aro := ao, bgo := I.bgo }
/-- what is written at pb -/
theorem MI.putB (I : MI K H0 H ws0 pw pa pb pm xs ms s k) {bg : List Nat} (bo : ∀ b ∈ bg, b < 1000)  : MI K H0 (upd H pb (.lst (bg.map fun n : Nat => V.int (n : Int)).reverse)) ws0 pw pa pb pm xs ms { s with bg := bg } k :=
  { same := same_own I.same I.nb _, nw := I.nw, na := I.na, nb := I.nb, nm := I.nm, wa := I.wa, wb := I.wb, wm := I.wm, ab := I.ab, am := I.am, bm := I.bm,
    hw := by rw [upd_ne I.wb]; exact I.hw, dw := wishesR_mo (e := Mo.upd) I.hb (sep_bg _) I.okw I.dw, ha := by rw [upd_ne I.ab]; exact I.ha, hb := upd_same, hm := by rw [upd_ne I.bm.symm]; exact I.hm,
    dm := I.dm.tk ((Mo.upd (b := pb)).tk I.hb) (flat_made _), hk := I.hk, kl := I.kl, okw := I.okw, bot := I.bot, aro := I.aro, bgo := bo }
/-- what is written at pm -/
theorem MI.putM (I : MI K H0 H ws0 pw pa pb pm xs ms s k) {ys : List V} {md : List T} (hy : DtA K H ys (madeD md))  : MI K H0 (upd H pm (.lst ys)) ws0 pw pa pb pm xs ys { s with md := md } k :=
  { same := same_own I.same I.nm _, nw := I.nw, na := I.na, nb := I.nb, nm := I.nm, wa := I.wa, wb := I.wb, wm := I.wm, ab := I.ab, am := I.am, bm := I.bm,
    hw := by rw [upd_ne I.wm]; exact I.hw, dw := wishesR_mo (e := Mo.upd) I.hm (sep_made I.dm) I.okw I.dw, ha := by rw [upd_ne I.am]; exact I.ha, hb := by rw [upd_ne I.bm]; exact I.hb, hm := upd_same,
    dm := hy.tk ((Mo.upd (b := pm)).tk I.hm) (flat_made _), hk := I.hk, kl := I.kl, okw := I.okw, bot := I.bot, aro := I.aro, bgo := I.bgo }
/-- a new list in pm's stead -/
theorem MI.newM (I : MI K H0 H ws0 pw pa pb pm xs ms s k) {q : Addr} {ys : List V} {md : List T} (e : Same H H') (hn : H q = none) (hq : H' q = some (.lst ys)) (hy : DtA K H' ys (madeD md))  : MI K H0 H' ws0 pw pa pb q xs ys { s with md := md } k :=
  { same := I.same.trans e, nw := I.nw, na := I.na, nb := I.nb, nm := I.same.free hn, wa := I.wa, wb := I.wb, wm := ne_of_none I.hw hn, ab := I.ab, am := ne_of_none I.ha hn, bm := ne_of_none I.hb hn,
    hw := e _ _ I.hw, dw := I.dw.same e, ha := e _ _ I.ha, hb := e _ _ I.hb, hm := hq, dm := hy, hk := I.hk, kl := I.kl, okw := I.okw, bot := I.bot, aro := I.aro, bgo := I.bgo }
/-- the last wish is taken -/
theorem MI.pop {K : PySem.W.Frag} {H0 H : Hp} {ws0 : List Wd} {k : Nat} {pw pa pb pm : Addr} {xs ms : List V} {s : LS} (I : MI K H0 H ws0 pw pa pb pm xs ms s k) {x : Wish} {W : List Wish} (hx : s.wt = x :: W) :
    ∃ ys v, xs = ys ++ [v] ∧ Dt K (upd H pw (.lst ys)) v (wishD x) ∧ MI K H0 (upd H pw (.lst ys)) ws0 pw pa pb pm ys ms { s with wt := W } k := by
  have hd := I.dw
  rw [hx, wishesD_cons] at hd
  obtain ⟨ys, v, rfl, h1, h2⟩ := hd.snoc
  have okx : okW x := I.okw x (by rw [hx]; exact List.mem_cons_self)
  have okr : ∀ y ∈ W, okW y := fun y hy => I.okw y (by rw [hx]; exact List.mem_cons_of_mem _ hy)
  refine ⟨ys, v, rfl, wish_mo (e := Mo.upd) I.hw (sep_wt I.dw I.bot) okx h2, ?_⟩
  have bot : W = [] ∨ W.getLast? = some .over := by
    rcases I.bot with h | h
    · rw [hx] at h; cases h
    · rw [hx] at h
      cases W with
      | nil => exact .inl rfl
      | cons a r => exact .inr (by rw [List.getLast?_cons_cons] at h; exact h)
  exact I.putW (W := W) (ws := s.ws) h1 okr bot I.hk I.kl
/-- wishes are put on top: the list's new content -/
theorem MI.ext {K : PySem.W.Frag} {H0 H : Hp} {ws0 : List Wd} {k : Nat} {pw pa pb pm : Addr} {xs ms : List V} {s : LS} (I : MI K H0 H ws0 pw pa pb pm xs ms s k) {zs : List V} {A : List Wish} (hz : DtA K H zs (wishesD A)) (ok : ∀ x ∈ A, okW x) (hb : s.wt ≠ []) :
    MI K H0 (upd H pw (.lst (xs ++ zs))) ws0 pw pa pb pm (xs ++ zs) ms { s with wt := A ++ s.wt } k := by
  refine I.putW (W := A ++ s.wt) (ws := s.ws) (by rw [wishesD_app]; exact I.dw.app hz) (fun x hx => ?_) (.inr ?_) I.hk I.kl
  · rcases List.mem_append.mp hx with h | h
    · exact ok x h
    · exact I.okw x h
  · rcases I.bot with h | h
    · exact absurd h hb
    · rw [List.getLast?_append, h]; rfl
theorem MI.step {K : PySem.W.Frag} {H0 H : Hp} {ws0 : List Wd} {k : Nat} {pw pa pb pm : Addr} {xs ms : List V} {s : LS} (I : MI K H0 H ws0 pw pa pb pm xs ms s k) (hk : k < ws0.length) : MI K H0 H ws0 pw pa pb pm xs ms { s with ws := s.ws.drop 1 } (k + 1) :=
  { I with hk := by show s.ws.drop 1 = _; rw [I.hk, List.drop_drop], kl := hk }
end
end K83
namespace K83
open PySem PySem.Spec PyProof.Rows L2
open C8 (Cal pe_c CalAt)
section
variable {P : Program} {w : World} {K : PySem.W.Frag} {mg : Str → Option Value} {base : Heap}
def GoodW (ws : List Wd) : Prop := ws.length ≤ 1000 ∧ ∀ w ∈ ws, w.length ≤ 4000 ∧ Cp w ∧ 78 ∉ w
def spLRead (K : PySem.W.Frag) : Sp := fun vs H Q _ => ∃ (wv : V) (ws : List Wd) (wide : Nat), vs = [wv, .int (wide : Nat)] ∧ Dt K H wv (.list (wsD ws)) ∧ GoodW ws ∧ wide ≤ 900 ∧
  ∀ v d0 H2, Same H H2 → Dt K H2 v (.tuple [d0, oT (rdW ws wide)]) → Q v H2
abbrev N_law_read : List Str := ["words", "wide", "wanted", "at", "around", "begun", "made", "wish", "word"]
abbrev P_law_read : List Str := ["words", "wide"]
theorem sc_law_read : FnScope N_law_read P_law_read (defScope s_law_read) := ⟨rfl, rfl, rfl, by decide +kernel, rfl, by decide +kernel, by decide +kernel⟩
theorem GoodW.hd {ws : List Wd} (h : GoodW ws) (k : Nat) : (K83.hd (ws.drop k)).length ≤ 4000 ∧ Cp (K83.hd (ws.drop k)) ∧ 78 ∉ K83.hd (ws.drop k) := by
  by_cases c : k < ws.length
  · exact h.2 _ (List.mem_of_getElem? (hd_get c))
  · rw [hd_out c]
    exact ⟨by simp, fun c hc => (by cases hc), by simp⟩
theorem c_law_read (T : Tx w K mg) : Cal P w K mg base 4 "_law_read" (spLRead K) [] := by
  obtain ⟨fd, F⟩ := T.d_law_read
  have c_law_lone := c_law_lone (P := P) (base := base) T
  have c_law_begun := c_law_begun (P := P) (base := base) T
  have c_law_row := c_law_row (P := P) (base := base) T
  have c_law_built := c_law_built (P := P) (base := base) T
  have c_law_met := c_law_met (P := P) (base := base) T
  refine cal_of F (F.ok sc_law_read (fun vs H Q E h => by obtain ⟨_, _, _, rfl, _⟩ := h; rfl) (fun cdv A outer s H vs Q E hr h => ⟨_, PSs.nox (pss_cons (L2.ps_par3 (i := 4) (j := 5) (l := 6) (by rfl) sc_law_read.nd rfl rfl rfl (by decide) (by decide) (by decide) rfl rfl rfl (pa_cons (pe_listRg rfl rfl T.n_list (prg_1 rfl T.n_range (pv 1))) (pa_cons (pe_lst pa_nil) (pa_cons (pe_lst pa_nil) pa_nil))) (by rfl))
    (pss_cons (ps_set (i := 2) sc_law_read.nd rfl (Or.inl rfl) (pe_lst (pa_cons pe_str (pa_cons pe_str pa_nil))))
    (pss_cons (ps_set (i := 3) sc_law_read.nd rfl (Or.inl rfl) pe_int)
    (pss_cons (ps_while PassesOwn.never (pt_cmpR (op_neEL (K := K) hr.units) (pv 2) (pe_lst pa_nil) (nomark _))
      (pss_cons (ps_set (i := 7) sc_law_read.nd rfl (Or.inl rfl) (pe_bm0 PySem.F.plainAttrs_list PySem.F.slot_list_pop PySem.F.type_list_pop mt_pop (pv 2)))
    (pss_cons (ps_set (i := 8) sc_law_read.nd rfl (Or.inl rfl) (pe_ifExp (pt_cmpR op_lt (pv 3) (pe_callB (call_lenK (K := K)) rfl T.n_len PySem.boot_len (pa_cons (pv 0) pa_nil)) (nomark _)) (pe_ix (ix_listK (K := K)) (pv 0) (pv 3) (fun _ _ => rfl)) pe_str))
    (pss_one (ps_if (pt_val (xIs (K := K) T.n_isinstance T.n_list b_list (pv 7))) (pss_one (ps_set (i := 6) sc_law_read.nd rfl (Or.inl rfl) (pe_c c_law_built hr (by decide) rfl (pa_cons (pv 7) (pa_cons (pv 6) pa_nil))))) (pss_one (ps_if (pt_cmpR op_eq (pv 7) pe_str (nomark _)) (pss_one (ps_expr (pe_bm PySem.F.plainAttrs_list PySem.F.slot_list_append PySem.F.type_list_append mt_append (pv 4) (pa_cons (pe_bm0 PySem.F.plainAttrs_list PySem.F.slot_list_pop PySem.F.type_list_pop mt_pop (pv 5)) pa_nil)))) (pss_one (ps_if (pt_cmpR op_eq (pv 7) pe_str (nomark _)) (pss_one (ps_expr (pe_bm0 PySem.F.plainAttrs_list PySem.F.slot_list_pop PySem.F.type_list_pop mt_pop (pv 4)))) (pss_one (ps_if (pt_cmpR op_eq (pv 7) pe_str (nomark _)) (pss_one (ps_expr (pe_bm PySem.F.plainAttrs_list PySem.F.slot_list_extend PySem.F.type_list_extend mt_extend (pv 2) (pa_cons (pe_c c_law_begun hr (by decide) rfl (pa_cons (pv 8) (pa_cons (pv 4) pa_nil))) pa_nil)))) (pss_one (ps_if (pt_cmpR op_eq (pv 7) pe_str (nomark _)) (pss_one (ps_expr (pe_bm PySem.F.plainAttrs_list PySem.F.slot_list_extend PySem.F.type_list_extend mt_extend (pv 2) (pa_cons (pe_c c_law_row hr (by decide) rfl (pa_cons (pv 8) pa_nil)) pa_nil)))) (pss_one (ps_if (PW.pt (pw_and (pt_cmpR op_eq (pv 7) pe_str (nomark _)) (pw_and1 (pt_cmpR op_eq (pv 8) pe_str (nomark _))))) (pss_cons (ps_expr (pe_bm PySem.F.plainAttrs_list PySem.F.slot_list_append PySem.F.type_list_append mt_append (pv 4) (pa_cons pe_non pa_nil)))
    (pss_cons (ps_expr (pe_bm PySem.F.plainAttrs_list PySem.F.slot_list_extend PySem.F.type_list_extend mt_extend (pv 2) (pa_cons (pe_lst (pa_cons (pe_lst (pa_cons pe_str pa_nil)) (pa_cons pe_str (pa_cons pe_str pa_nil)))) pa_nil)))
    (pss_one (ps_set (i := 3) sc_law_read.nd rfl (Or.inl rfl) (pe_op op_add (pv 3) pe_int))))) (pss_one (ps_if (PW.pt (pw_and (pt_cmpR op_eq (pv 7) pe_str (nomark _)) (pw_and1 (PW.pt (pw_or (pt_cmpR op_eq (pv 8) pe_str (nomark _)) (pw_or1 (pt_cmpR op_isNotK (pe_c c_law_lone hr (by decide) rfl (pa_cons (pv 8) (pa_cons (pv 4) pa_nil))) pe_non (nomark _)))))))) (pss_one (ps_expr (pe_bm PySem.F.plainAttrs_list PySem.F.slot_list_extend PySem.F.type_list_extend mt_extend (pv 2) (pa_cons (pe_lst (pa_cons pe_str (pa_cons (pe_lst (pa_cons pe_str pa_nil)) (pa_cons pe_str pa_nil)))) pa_nil)))) (pss_one (ps_if (PW.pt (pw_and (pt_cmpR op_eq (pv 7) pe_str (nomark _)) (pw_and1 (pt_cmpR op_eq (pv 8) pe_str (nomark _))))) (pss_cons (ps_expr (pe_bm PySem.F.plainAttrs_list PySem.F.slot_list_extend PySem.F.type_list_extend mt_extend (pv 2) (pa_cons (pe_lst (pa_cons pe_str (pa_cons pe_str pa_nil))) pa_nil)))
    (pss_one (ps_set (i := 3) sc_law_read.nd rfl (Or.inl rfl) (pe_op op_add (pv 3) pe_int)))) (pss_one (ps_if (PW.pt (pw_and (pt_cmpR op_eq (pv 7) pe_str (nomark _)) (pw_and1 (pt_cmpR op_lt (pv 3) (pe_callB (call_lenK (K := K)) rfl T.n_len PySem.boot_len (pa_cons (pv 0) pa_nil)) (nomark _))))) (pss_one (ps_ret (pe_tup (pa_cons (pv 3) (pa_cons pe_non pa_nil))))) (pss_one (ps_if (pt_cmpR (op_notInK (K := K)) (pv 7) (pe_lst (pa_cons pe_str (pa_cons pe_str (pa_cons pe_str pa_nil)))) (by rfl)) (pss_cons (ps_if (pt_not (pt_val (pe_c c_law_met hr (by decide) rfl (pa_cons (pv 7) (pa_cons (pv 8) (pa_cons (pe_lst (pa_cons (pv 4) (pa_cons (pv 5) (pa_cons (pv 6) pa_nil)))) pa_nil)))))) (pss_one (ps_ret (pe_tup (pa_cons (pv 3) (pa_cons pe_non pa_nil))))) pss_nil)
    (pss_one (ps_set (i := 3) sc_law_read.nd rfl (Or.inl rfl) (pe_op op_add (pv 3) pe_int)))) pss_nil)))))))))))))))))))))))
    (pss_one (ps_ret (pe_tup (pa_cons pe_non (pa_cons (pe_ix (ix_listK (K := K)) (pv 6) pe_int (fun _ _ => rfl)) pa_nil))))))))), ?_⟩)) T.g_law_read
    fun _ _ _ _ _ _ us hl => match us, hl with | [_, _], _ => rfl
  obtain ⟨wv, ws0, wide, rfl, hwords, hg, hwide, q⟩ := h
  obtain ⟨nE, hE⟩ := law_ends ws0 wide
  generalize hrs : rdW ws0 wide = res at hE q
  have hz : (0 : Nat) ≤ sizeLine := Nat.zero_le _
  refine ⟨_, rfl, _, rfl, RgOk.of_le (by omega) (by omega) (by omega) (by omega), fun pa hpa => ⟨hz, fun pb hpb => ⟨hz, fun pm0 hpm => ⟨_, _, _, rfl, ?_⟩⟩⟩⟩
  have er : rgV 0 (wide : Int) = ((List.range wide).map some).map aV := by
    unfold rgV
    rw [List.map_map, show ((wide : Int) - 0).toNat = wide by omega]
    apply List.map_congr_left
    intro i _
    show V.int (0 + (i : Int)) = V.int i
    rw [Int.zero_add]
  rw [er] at hpb hpm ⊢
  generalize hHa : upd H pa (.lst (((List.range wide).map some).map aV)) = Ha at hpb hpm ⊢
  generalize hHb : upd Ha pb (.lst []) = Hb at hpm ⊢
  generalize hHm : upd Hb pm0 (.lst []) = Hm
  have ea : Same H Ha := by rw [← hHa]; exact same_new hpa _
  have eb : Same Ha Hb := by rw [← hHb]; exact same_new hpb _
  have em : Same Hb Hm := by rw [← hHm]; exact same_new hpm _
  have ga : Ha pa = some (.lst (((List.range wide).map some).map aV)) := by rw [← hHa]; exact upd_same
  have gb : Hb pb = some (.lst []) := by rw [← hHb]; exact upd_same
  have gm : Hm pm0 = some (.lst []) := by rw [← hHm]; exact upd_same
  refine rd_new (K := K) (ds := [wD wOver, wD wTerm]) (esa_cons (es_w wOver) (esa_cons (es_w wTerm) esa_nil)) (by simp) fun pw Hw xs0 ew hpw hw hx0 => ?_
  dsimp only
  refine rd_set (K := K) (d := .int 0) es_int fun v0 H1 e1 hv0 => ?_
  cases hv0
  generalize hB : 15 + 40 * ws0.length + wide = B
  have hB2 : B ≤ 49000 := by have := hg.1; omega
  have eall : Same H H1 := (((ea.trans eb).trans em).trans ew).trans e1
  refine rd_while (m0 := nE) (fun m σ H' => ∃ (s : LS) (k : Nat) (pm : Addr) (xs ms : List V) (z7 z8 : Option V), σ = [some wv, some (.int (wide : Nat)), some (.ref pw), some (.int (k : Nat)), some (.ref pa), some (.ref pb), some (.ref pm), z7, z8] ∧ MI K H H' ws0 pw pa pb pm xs ms s k ∧ Phi s ≤ B + slack s ∧ K83.Ends m s res)
    ⟨⟨(List.range wide).map some, [], [], [.term, .over], ws0⟩, 0, pm0, xs0, [], none, none, rfl, ?_, ?_, hE⟩ (fun m σ H' g => ?_)
  · exact
      { same := eall, nw := ((ea.trans eb).trans em).free hpw, na := hpa, nb := ea.free hpb, nm := (ea.trans eb).free hpm,
        wa := (ne_of_none ((eb.trans em) _ _ ga) hpw).symm, wb := (ne_of_none (em _ _ gb) hpw).symm, wm := (ne_of_none gm hpw).symm, ab := ne_of_none ga hpb, am := ne_of_none (eb _ _ ga) hpm, bm := ne_of_none gb hpm,
        hw := e1 _ _ hw, dw := hx0.same e1, ha := e1 _ _ (ew _ _ (em _ _ (eb _ _ ga))), hb := e1 _ _ (ew _ _ (em _ _ gb)), hm := e1 _ _ (ew _ _ gm), dm := .nil, hk := rfl, kl := Nat.zero_le _,
        okw := fun x hx => by
          simp only [List.mem_cons, List.not_mem_nil, or_false] at hx
          rcases hx with rfl | rfl <;> trivial,
        bot := .inr rfl,
        aro := fun n hn => by
          simp at hn
          omega,
        bgo := fun b hb => by cases hb }
  · simp [Phi, slack, phis, phi]
    omega
  obtain ⟨s, k, pm, xs, ms, z7, z8, rfl, I, hphi, he⟩ := g
  obtain ⟨ln1, ln2, ln3, ln4⟩ := phi_lens hphi hB2
  refine ⟨_, est_op (es_op (od_neEL (lay_wishes I.okw)) (es_var (K := K) (i := 2) rfl (.lst I.hw I.dw)) (es_lst esa_nil)), fun hb H2 e2 => ?_, fun hb H2 e2 => ?_⟩
  · obtain ⟨ar, bg, md, wt, ws⟩ := s
    cases wt with
    | nil => cases hb
    | cons x W =>
    cases m with
    | zero => cases he.1
    | succ n =>
    obtain ⟨ys, v, rfl, hv, I1⟩ := (I.sm e2).pop (x := x) (W := W) rfl
    refine ⟨_, rfl, .inl ⟨rfl, _, SqL.of (e2 _ _ I.hw)⟩, pw, _, v, rfl, rfl, e2 _ _ I.hw, by simp, ?_⟩
    rw [List.dropLast_concat]
    have hkw : ws = ws0.drop k := I.hk
    have hwl := I1.same
    refine rd_set (d := wD (hd ws)) (es_if (est_op (es_op od_cmp (es_var (K := K) (i := 3) rfl (.int _)) (es_b cb_lenL (esa_cons (es_var (i := 0) rfl (hwords.same I1.same)) esa_nil)))) (fun hc => (es_op (od_ixL (atI_n (wsD_get (hd_get ?_)))) (es_var (i := 0) rfl (hwords.same I1.same)) (es_var (i := 3) rfl (.int _))).eq ?_) (fun hc => (es_w []).eq ?_)) fun vw H3 e3 hvw => ?_
    · simp [wsD_len] at hc; exact hc
    · rw [hkw]
    · rw [hkw, hd_out]
      simp [wsD_len] at hc; omega
    have hvw' : vw = wV (hd ws) := by cases hvw; rfl
    subst hvw'
    obtain ⟨wd1, wd2, wd3⟩ : (hd ws).length ≤ 4000 ∧ Cp (hd ws) ∧ 78 ∉ hd ws := by rw [hkw]; exact hg.hd k
    have I3 := I1.sm e3
    have hv3 := hv.same e3
    have E : Same H3 H3 := Same.refl _
    have hne : x ≠ .over → W ≠ [] := fun h1 h2 => by
      subst h2
      rcases I.bot with h | h
      · cases h
      · exact h1 (by simpa using h)
    have okx : okW x := I.okw x List.mem_cons_self
    have fail : ∀ {H9 : Hp}, Same H3 H9 → res = none → ∀ v9 H10, Same H9 H10 → Dt K H10 v9 (.tuple [.int (k : Nat), .none]) → Q v9 H10 := fun {H9} e9 hr v9 H10 e10 h9 => q v9 (.int (k : Nat)) H10 ((I3.same.trans e9).trans e10) (by rw [hr]; exact h9)
    have ok2 : ∀ {k' : Nat} {pm' : Addr} {xs' ms' : List V} {u : LS} {H9 : Hp} {n' : Nat}, stp ⟨ar, bg, md, x :: W, ws⟩ = some (some u) → K83.Ends n' u res → MI K H H9 ws0 pw pa pb pm' xs' ms' u k' → MI K H H9 ws0 pw pa pb pm' xs' ms' u k' ∧ Phi u ≤ B + slack u ∧ K83.Ends n' u res := fun h1 h2 h3 => ⟨h3, phi_stp h1 hphi, h2⟩
    simp only at ln1 ln2 ln3 ln4
    have lW : W.length ≤ 50000 := by simp at ln4; omega
    have lys : ys.length ≤ 50000 := by rw [I1.dw.len]; simp [wishesD]; exact lW
    have klt : ∀ {z : Wd}, hd ws = z → z ≠ [] → k < ws0.length := fun h1 h2 => lt_of_hd (by rw [← hkw, h1]; exact h2)
    have klt2 : hd ws ≠ [] → k < ws0.length := fun h1 => lt_of_hd (by rw [← hkw]; exact h1)
    /- wanted.extend(..) -/
    have ext : ∀ {H9 : Hp} (e9 : Same H3 H9) {b : Addr} {zs : List V} {A : List Wish} (hA : ∀ y ∈ A, okW y) (hb9 : H9 b = some (.lst zs)) (hz : DtA K H9 zs (wishesD A)) (hWne : W ≠ []) (hAl : A.length ≤ 20) {ti : Nat} {Qx : VK}, (MI K H (upd H9 pw (.lst (ys ++ zs))) ws0 pw pa pb pm (ys ++ zs) ms ⟨ar, bg, md, A ++ W, ws⟩ k → Qx .non (upd H9 pw (.lst (ys ++ zs)))) → rExtend (.ref pw) [.ref b] H9 Qx := fun {H9} e9 {b zs A} hA hb9 hz hWne hAl {ti Qx} kk =>
      ⟨pw, b, ys, zs, rfl, rfl, (I3.sm e9).hw, hb9, len_small (by rw [hz.len]; simp [wishesD]; omega), kk ((I3.sm e9).ext hz hA hWne)⟩
    cases x with
    | over =>
      refine rd_no ((est_val (es_is (es_var (K := K) (i := 7) rfl (hv3.same E)))).eq rfl) rfl fun H9 e9 => ?_
      replace E := E.trans e9
      refine rd_no (est_op (es_op od_eqW (es_var (K := K) (i := 7) rfl (hv3.same E)) (es_w wIn))) (by first | decide | exact decide_eq_false (nn _ (by decide))) fun H9 e9 => ?_
      replace E := E.trans e9
      refine rd_no (est_op (es_op od_eqW (es_var (K := K) (i := 7) rfl (hv3.same E)) (es_w wOut))) (by first | decide | exact decide_eq_false (nn _ (by decide))) fun H9 e9 => ?_
      replace E := E.trans e9
      refine rd_no (est_op (es_op od_eqW (es_var (K := K) (i := 7) rfl (hv3.same E)) (es_w wTerm))) (by first | decide | exact decide_eq_false (nn _ (by decide))) fun H9 e9 => ?_
      replace E := E.trans e9
      refine rd_no (est_op (es_op od_eqW (es_var (K := K) (i := 7) rfl (hv3.same E)) (es_w wRow))) (by first | decide | exact decide_eq_false (nn _ (by decide))) fun H9 e9 => ?_
      replace E := E.trans e9
      refine rd_no (est_and (b := false) (est_op (es_op od_eqW (es_var (K := K) (i := 7) rfl (hv3.same E)) (es_w wArrow))) fun hc => absurd hc (by first | decide | (rw [decide_eq_false (nn _ (by decide))]; decide))) (by first | decide | (rw [decide_eq_false (nn _ (by decide))]; rfl)) fun H9 e9 => ?_
      replace E := E.trans e9
      refine rd_no (est_and (b := false) (est_op (es_op od_eqW (es_var (K := K) (i := 7) rfl (hv3.same E)) (es_w wMore))) fun hc => absurd hc (by first | decide | (rw [decide_eq_false (nn _ (by decide))]; decide))) (by first | decide | (rw [decide_eq_false (nn _ (by decide))]; rfl)) fun H9 e9 => ?_
      replace E := E.trans e9
      refine rd_no (est_and (b := false) (est_op (es_op od_eqW (es_var (K := K) (i := 7) rfl (hv3.same E)) (es_w wPart))) fun hc => absurd hc (by first | decide | (rw [decide_eq_false (nn _ (by decide))]; decide))) (by first | decide | (rw [decide_eq_false (nn _ (by decide))]; rfl)) fun H9 e9 => ?_
      replace E := E.trans e9
      refine rd_if (b := decide (k < ws0.length)) ((est_and (b := decide (k < ws0.length)) (est_op (es_op od_eqW (es_var (K := K) (i := 7) rfl (hv3.same E)) (es_w wOver))) fun _ => ((est_op (es_op od_cmp (es_var (K := K) (i := 3) rfl (.int _)) (es_b cb_lenL (esa_cons (es_var (i := 0) rfl (hwords.same (I3.same.trans E))) esa_nil)))).eq (by rw [wsD_len]; apply decide_eq_decide.mpr; omega))).eq (by rfl)) (fun H9 e9 hb => ?_) (fun H9 e9 hb => ?_)
      · have hr : res = none := by
          rcases he with ⟨_, h⟩ | ⟨u, h, _⟩
          · exact h
          · simp only [stp] at h
            rw [if_neg (by rw [hkw]; simp at hb ⊢; omega)] at h
            cases h
        refine rd_ret (K := K) (es_tup (esa_cons (es_var (i := 3) rfl (.int _)) (esa_cons es_non esa_nil))) (fail (E.trans e9) hr)
      · replace E := E.trans e9
        refine rd_no (est_op (es_op (od_notIn (ws := [wMore, wArrow, wOver])) (es_var (K := K) (i := 7) rfl (hv3.same E)) (es_lst (esa_cons (es_w wMore) (esa_cons (es_w wArrow) (esa_cons (es_w wOver) esa_nil)))))) (by decide) fun H9 e9 => ?_
        replace E := E.trans e9
        rcases he with ⟨h, _⟩ | ⟨u, h, he⟩
        · simp only [stp] at h
          rw [if_pos (by rw [hkw]; simp at hb ⊢; omega)] at h
          cases h
        · have hs := h
          simp only [stp] at h
          rw [if_pos (by rw [hkw]; simp at hb ⊢; omega)] at h
          cases h
          exact ⟨n, by omega, _, k, pm, ys, ms, _, _, rfl, ok2 hs he (I3.sm E)⟩
    | term =>
      refine rd_no ((est_val (es_is (es_var (K := K) (i := 7) rfl (hv3.same E)))).eq rfl) rfl fun H9 e9 => ?_
      replace E := E.trans e9
      refine rd_no (est_op (es_op od_eqW (es_var (K := K) (i := 7) rfl (hv3.same E)) (es_w wIn))) (by first | decide | exact decide_eq_false (nn _ (by decide))) fun H9 e9 => ?_
      replace E := E.trans e9
      refine rd_no (est_op (es_op od_eqW (es_var (K := K) (i := 7) rfl (hv3.same E)) (es_w wOut))) (by first | decide | exact decide_eq_false (nn _ (by decide))) fun H9 e9 => ?_
      replace E := E.trans e9
      refine rd_yes (est_op (es_op od_eqW (es_var (K := K) (i := 7) rfl (hv3.same E)) (es_w wTerm))) (by decide) fun H9 e9 => ?_
      replace E := E.trans e9
      refine ⟨_, rfl, .inl ⟨rfl, _, SqL.of (I3.sm E).hw⟩, (esa_cons (es_c (K := K) (esa_cons (es_var (i := 8) rfl (dt_w (hd ws))) (esa_cons (es_var (i := 4) rfl (.lst (I3.sm E).ha (dt_ar ar))) esa_nil)) ⟨hd ws, _, rfl, rfl⟩) esa_nil).at fun vs H5 e5 hvs => ?_⟩
      obtain ⟨v5, rfl, hv5⟩ := hvs.one_inv
      cases hv5 with
      | @lst b zs _ hb5 hz5 =>
      refine ext (E.trans e5) (okW_beg (hd ws)) hb5 hz5 (hne (by simp)) (by unfold begF; split <;> simp) (ti := 0) fun I5 => ?_
      rcases he with ⟨h, _⟩ | ⟨u, h, he⟩
      · simp only [stp] at h; cases h
      · have hs := h
        simp only [stp] at h
        cases h
        exact ⟨n, by omega, _, k, pm, _, ms, _, _, rfl, ok2 hs he I5⟩
    | row =>
      refine rd_no ((est_val (es_is (es_var (K := K) (i := 7) rfl (hv3.same E)))).eq rfl) rfl fun H9 e9 => ?_
      replace E := E.trans e9
      refine rd_no (est_op (es_op od_eqW (es_var (K := K) (i := 7) rfl (hv3.same E)) (es_w wIn))) (by first | decide | exact decide_eq_false (nn _ (by decide))) fun H9 e9 => ?_
      replace E := E.trans e9
      refine rd_no (est_op (es_op od_eqW (es_var (K := K) (i := 7) rfl (hv3.same E)) (es_w wOut))) (by first | decide | exact decide_eq_false (nn _ (by decide))) fun H9 e9 => ?_
      replace E := E.trans e9
      refine rd_no (est_op (es_op od_eqW (es_var (K := K) (i := 7) rfl (hv3.same E)) (es_w wTerm))) (by first | decide | exact decide_eq_false (nn _ (by decide))) fun H9 e9 => ?_
      replace E := E.trans e9
      refine rd_yes (est_op (es_op od_eqW (es_var (K := K) (i := 7) rfl (hv3.same E)) (es_w wRow))) (by decide) fun H9 e9 => ?_
      replace E := E.trans e9
      refine ⟨_, rfl, .inl ⟨rfl, _, SqL.of (I3.sm E).hw⟩, (esa_cons (es_c (K := K) (esa_cons (es_var (i := 8) rfl (dt_w (hd ws))) esa_nil) ⟨hd ws, rfl, rfl⟩) esa_nil).at fun vs H5 e5 hvs => ?_⟩
      obtain ⟨v5, rfl, hv5⟩ := hvs.one_inv
      cases hv5 with
      | @lst b zs _ hb5 hz5 =>
      refine ext (E.trans e5) (okW_row (hd ws)) hb5 hz5 (hne (by simp)) (by unfold rowF; split <;> (try split) <;> simp) (ti := 0) fun I5 => ?_
      rcases he with ⟨h, _⟩ | ⟨u, h, he⟩
      · simp only [stp] at h; cases h
      · have hs := h
        simp only [stp] at h
        cases h
        exact ⟨n, by omega, _, k, pm, _, ms, _, _, rfl, ok2 hs he I5⟩
    | arrow =>
      refine rd_no ((est_val (es_is (es_var (K := K) (i := 7) rfl (hv3.same E)))).eq rfl) rfl fun H9 e9 => ?_
      replace E := E.trans e9
      refine rd_no (est_op (es_op od_eqW (es_var (K := K) (i := 7) rfl (hv3.same E)) (es_w wIn))) (by first | decide | exact decide_eq_false (nn _ (by decide))) fun H9 e9 => ?_
      replace E := E.trans e9
      refine rd_no (est_op (es_op od_eqW (es_var (K := K) (i := 7) rfl (hv3.same E)) (es_w wOut))) (by first | decide | exact decide_eq_false (nn _ (by decide))) fun H9 e9 => ?_
      replace E := E.trans e9
      refine rd_no (est_op (es_op od_eqW (es_var (K := K) (i := 7) rfl (hv3.same E)) (es_w wTerm))) (by first | decide | exact decide_eq_false (nn _ (by decide))) fun H9 e9 => ?_
      replace E := E.trans e9
      refine rd_no (est_op (es_op od_eqW (es_var (K := K) (i := 7) rfl (hv3.same E)) (es_w wRow))) (by first | decide | exact decide_eq_false (nn _ (by decide))) fun H9 e9 => ?_
      replace E := E.trans e9
      refine rd_if (b := decide (hd ws = wArr)) ((est_and (b := decide (hd ws = wArr)) (est_op (es_op od_eqW (es_var (K := K) (i := 7) rfl (hv3.same E)) (es_w wArrow))) fun _ => (est_op (es_op od_eqW (es_var (K := K) (i := 8) rfl (dt_w (hd ws))) (es_w wArr)))).eq (by rfl)) (fun H9 e9 hb => ?_) (fun H9 e9 hb => ?_)
      · have hb : hd ws = wArr := by simpa using hb
        have hk9 := klt hb (by decide)
        replace E := E.trans e9
        have I4 := I3.sm E
        refine ⟨_, rfl, .inl ⟨rfl, _, SqL.of I4.ha⟩, pa, _, .non, rfl, rfl, I4.ha, len_lt (by simp; omega), ?_⟩
        have I5 := I4.putA (ar := ar ++ [none]) (fun n hn => by
          rcases List.mem_append.mp hn with h | h
          · exact I.aro n h
          · simp at h)
        rw [show List.map aV (ar ++ [none]) = List.map aV ar ++ [V.non] by simp [aV]] at I5
        refine ⟨_, rfl, .inl ⟨rfl, _, SqL.of I5.hw⟩, (esa_cons (es_lst (K := K) (esa_cons (es_lst (esa_cons (es_w wAll) esa_nil)) (esa_cons (es_w wOut) (esa_cons (es_w wTerm) esa_nil)))) esa_nil).at fun vs H6 e6 hvs => ?_⟩
        obtain ⟨v5, rfl, hv5⟩ := hvs.one_inv
        cases hv5 with
        | @lst b zs _ hb5 hz5 =>
        have I6 := I5.sm e6
        have I7 := I6.ext (A := [.term, .out, .build wAll]) hz5 (fun y hy => by
          simp only [List.mem_cons, List.not_mem_nil, or_false] at hy
          rcases hy with rfl | rfl | rfl <;> first | trivial | (show _ ∈ formWs; decide)) (hne (by simp))
        refine ⟨pw, b, ys, zs, rfl, rfl, I6.hw, hb5, len_small (by rw [hz5.len]; simp; omega), ?_⟩
        refine rd_set (K := K) (d := .int ((k + 1 : Nat) : Int)) ((es_op od_add (es_var (i := 3) rfl (.int _)) es_int).eq (by congr 1)) fun v9 H9 e9 hv9 => ?_
        obtain rfl := dt_int hv9
        rcases he with ⟨h, _⟩ | ⟨u, h, he⟩
        · simp only [stp] at h
          rw [if_pos hb] at h; cases h
        · have hs := h
          simp only [stp] at h
          rw [if_pos hb] at h
          cases h
          exact ⟨n, by omega, _, k + 1, pm, _, ms, _, _, rfl, ok2 hs he ((I7.sm e9).step hk9)⟩
      · have hb : ¬ hd ws = wArr := by simpa using hb
        replace E := E.trans e9
        refine rd_no (est_and (b := false) (est_op (es_op od_eqW (es_var (K := K) (i := 7) rfl (hv3.same E)) (es_w wMore))) fun hc => absurd hc (by first | decide | (rw [decide_eq_false (nn _ (by decide))]; decide))) (by first | decide | (rw [decide_eq_false (nn _ (by decide))]; rfl)) fun H9 e9 => ?_
        replace E := E.trans e9
        refine rd_no (est_and (b := false) (est_op (es_op od_eqW (es_var (K := K) (i := 7) rfl (hv3.same E)) (es_w wPart))) fun hc => absurd hc (by first | decide | (rw [decide_eq_false (nn _ (by decide))]; decide))) (by first | decide | (rw [decide_eq_false (nn _ (by decide))]; rfl)) fun H9 e9 => ?_
        replace E := E.trans e9
        refine rd_no (est_and (b := false) (est_op (es_op od_eqW (es_var (K := K) (i := 7) rfl (hv3.same E)) (es_w wOver))) fun hc => absurd hc (by first | decide | (rw [decide_eq_false (nn _ (by decide))]; decide))) (by first | decide | (rw [decide_eq_false (nn _ (by decide))]; rfl)) fun H9 e9 => ?_
        replace E := E.trans e9
        refine rd_no (est_op (es_op (od_notIn (ws := [wMore, wArrow, wOver])) (es_var (K := K) (i := 7) rfl (hv3.same E)) (es_lst (esa_cons (es_w wMore) (esa_cons (es_w wArrow) (esa_cons (es_w wOver) esa_nil)))))) (by decide) fun H9 e9 => ?_
        replace E := E.trans e9
        rcases he with ⟨h, _⟩ | ⟨u, h, he⟩
        · simp only [stp] at h
          rw [if_neg hb] at h; cases h
        · have hs := h
          simp only [stp] at h
          rw [if_neg hb] at h
          cases h
          exact ⟨n, by omega, _, k, pm, ys, ms, _, _, rfl, ok2 hs he (I3.sm E)⟩
    | inn =>
      refine rd_no ((est_val (es_is (es_var (K := K) (i := 7) rfl (hv3.same E)))).eq rfl) rfl fun H9 e9 => ?_
      replace E := E.trans e9
      refine rd_yes (est_op (es_op od_eqW (es_var (K := K) (i := 7) rfl (hv3.same E)) (es_w wIn))) (by decide) fun H9 e9 => ?_
      replace E := E.trans e9
      have I4 := I3.sm E
      cases bg with
      | nil =>
        rcases he with ⟨h, _⟩ | ⟨u, h, _⟩ <;> (simp only [stp] at h; cases h)
      | cons b bg =>
        refine ⟨_, rfl, .inl ⟨rfl, _, SqL.of I4.ha⟩, _, rfl, .inl ⟨rfl, _, SqL.of I4.hb⟩, pb, _, .int (b : Nat), rfl, rfl, I4.hb, by simp, ?_⟩
        have I5 := I4.putB (bg := bg) fun y hy => I4.bgo y (List.mem_cons_of_mem _ hy)
        rw [show ((b :: bg).map fun n : Nat => V.int (n : Int)).reverse.dropLast = (bg.map fun n : Nat => V.int (n : Int)).reverse by simp]
        refine ⟨pa, _, .int (b : Nat), rfl, rfl, I5.ha, len_lt (by simp; omega), ?_⟩
        have I6 := I5.putA (ar := ar ++ [some b]) (fun n hn => by
          rcases List.mem_append.mp hn with h | h
          · exact I.aro n h
          · simp at h
            rw [h]
            exact I4.bgo b List.mem_cons_self)
        rw [show List.map aV (ar ++ [some b]) = List.map aV ar ++ [V.int (b : Nat)] by simp [aV]] at I6
        rcases he with ⟨h, _⟩ | ⟨u, h, he⟩
        · simp only [stp] at h; cases h
        · have hs := h
          simp only [stp] at h
          cases h
          exact ⟨n, by omega, _, k, pm, ys, ms, _, _, rfl, ok2 hs he I6⟩
    | out =>
      refine rd_no ((est_val (es_is (es_var (K := K) (i := 7) rfl (hv3.same E)))).eq rfl) rfl fun H9 e9 => ?_
      replace E := E.trans e9
      refine rd_no (est_op (es_op od_eqW (es_var (K := K) (i := 7) rfl (hv3.same E)) (es_w wIn))) (by first | decide | exact decide_eq_false (nn _ (by decide))) fun H9 e9 => ?_
      replace E := E.trans e9
      refine rd_yes (est_op (es_op od_eqW (es_var (K := K) (i := 7) rfl (hv3.same E)) (es_w wOut))) (by decide) fun H9 e9 => ?_
      replace E := E.trans e9
      have I4 := I3.sm E
      rcases he with ⟨h, _⟩ | ⟨u, h, he⟩
      · simp only [stp] at h
        split at h <;> cases h
      · have hs := h
        simp only [stp] at h
        split at h
        · cases h
        · rename_i hne0
          cases h
          have hl := List.length_pos_iff.mpr hne0
          refine ⟨_, rfl, .inl ⟨rfl, _, SqL.of I4.ha⟩, pa, _, aV (ar[ar.length - 1]'(by omega)), rfl, rfl, I4.ha, by rw [List.length_map, List.getElem?_map, List.getElem?_eq_getElem (show ar.length - 1 < ar.length by omega)]; rfl, ?_⟩
          have I5 := I4.putA (ar := ar.dropLast) (fun n hn => I.aro n (List.dropLast_subset _ hn))
          rw [show List.map aV ar.dropLast = (List.map aV ar).dropLast by rw [List.map_dropLast]] at I5
          exact ⟨n, by omega, _, k, pm, ys, ms, _, _, rfl, ok2 hs he I5⟩
    | more =>
      refine rd_no ((est_val (es_is (es_var (K := K) (i := 7) rfl (hv3.same E)))).eq rfl) rfl fun H9 e9 => ?_
      replace E := E.trans e9
      refine rd_no (est_op (es_op od_eqW (es_var (K := K) (i := 7) rfl (hv3.same E)) (es_w wIn))) (by first | decide | exact decide_eq_false (nn _ (by decide))) fun H9 e9 => ?_
      replace E := E.trans e9
      refine rd_no (est_op (es_op od_eqW (es_var (K := K) (i := 7) rfl (hv3.same E)) (es_w wOut))) (by first | decide | exact decide_eq_false (nn _ (by decide))) fun H9 e9 => ?_
      replace E := E.trans e9
      refine rd_no (est_op (es_op od_eqW (es_var (K := K) (i := 7) rfl (hv3.same E)) (es_w wTerm))) (by first | decide | exact decide_eq_false (nn _ (by decide))) fun H9 e9 => ?_
      replace E := E.trans e9
      refine rd_no (est_op (es_op od_eqW (es_var (K := K) (i := 7) rfl (hv3.same E)) (es_w wRow))) (by first | decide | exact decide_eq_false (nn _ (by decide))) fun H9 e9 => ?_
      replace E := E.trans e9
      refine rd_no (est_and (b := false) (est_op (es_op od_eqW (es_var (K := K) (i := 7) rfl (hv3.same E)) (es_w wArrow))) fun hc => absurd hc (by first | decide | (rw [decide_eq_false (nn _ (by decide))]; decide))) (by first | decide | (rw [decide_eq_false (nn _ (by decide))]; rfl)) fun H9 e9 => ?_
      replace E := E.trans e9
      refine rd_if (b := decide (hd ws = wOpn) || (lone (hd ws) ar).isSome) ((est_and (b := decide (hd ws = wOpn) || (lone (hd ws) ar).isSome) (est_op (es_op od_eqW (es_var (K := K) (i := 7) rfl (hv3.same E)) (es_w wMore))) fun _ => est_or (est_op (es_op od_eqW (es_var (K := K) (i := 8) rfl (dt_w (hd ws))) (es_w wOpn))) fun _ => ((est_op (es_op od_notN (es_c (K := K) (esa_cons (es_var (i := 8) rfl (dt_w (hd ws))) (esa_cons (es_var (i := 4) rfl (.lst (I3.sm E).ha (dt_ar ar))) esa_nil)) ⟨hd ws, ar, rfl, wd1, wd2, wd3, I.aro, ln1, rfl⟩) es_non)).eq (by rw [oT_none]; cases lone (hd ws) ar <;> rfl))).eq (by rfl)) (fun H9 e9 hb => ?_) (fun H9 e9 hb => ?_)
      · have hb : hd ws = wOpn ∨ (lone (hd ws) ar).isSome = true := by simpa using hb
        replace E := E.trans e9
        have I5 := I3.sm E
        refine ⟨_, rfl, .inl ⟨rfl, _, SqL.of I5.hw⟩, (esa_cons (es_lst (K := K) (esa_cons (es_w wMore) (esa_cons (es_lst (esa_cons (es_w wApp) esa_nil)) (esa_cons (es_w wPart) esa_nil)))) esa_nil).at fun vs H6 e6 hvs => ?_⟩
        obtain ⟨v5, rfl, hv5⟩ := hvs.one_inv
        cases hv5 with
        | @lst b zs _ hb5 hz5 =>
        refine ext (E.trans e6) (A := [.part, .build wApp, .more]) (fun y hy => by
          simp only [List.mem_cons, List.not_mem_nil, or_false] at hy
          rcases hy with rfl | rfl | rfl <;> first | trivial | (show _ ∈ formWs; decide)) hb5 hz5 (hne (by simp)) (by simp) (ti := 0) fun I7 => ?_
        rcases he with ⟨h, _⟩ | ⟨u, h, he⟩
        · simp only [stp] at h
          rw [if_pos hb] at h; cases h
        · have hs := h
          simp only [stp] at h
          rw [if_pos hb] at h
          cases h
          exact ⟨n, by omega, _, k, pm, _, ms, _, _, rfl, ok2 hs he I7⟩
      · have hb : ¬ (hd ws = wOpn ∨ (lone (hd ws) ar).isSome = true) := by
          intro z
          rw [Bool.or_eq_false_iff] at hb
          rcases z with z | z
          · simp [z] at hb
          · rw [z] at hb; simp at hb
        replace E := E.trans e9
        refine rd_no (est_and (b := false) (est_op (es_op od_eqW (es_var (K := K) (i := 7) rfl (hv3.same E)) (es_w wPart))) fun hc => absurd hc (by first | decide | (rw [decide_eq_false (nn _ (by decide))]; decide))) (by first | decide | (rw [decide_eq_false (nn _ (by decide))]; rfl)) fun H9 e9 => ?_
        replace E := E.trans e9
        refine rd_no (est_and (b := false) (est_op (es_op od_eqW (es_var (K := K) (i := 7) rfl (hv3.same E)) (es_w wOver))) fun hc => absurd hc (by first | decide | (rw [decide_eq_false (nn _ (by decide))]; decide))) (by first | decide | (rw [decide_eq_false (nn _ (by decide))]; rfl)) fun H9 e9 => ?_
        replace E := E.trans e9
        refine rd_no (est_op (es_op (od_notIn (ws := [wMore, wArrow, wOver])) (es_var (K := K) (i := 7) rfl (hv3.same E)) (es_lst (esa_cons (es_w wMore) (esa_cons (es_w wArrow) (esa_cons (es_w wOver) esa_nil)))))) (by decide) fun H9 e9 => ?_
        replace E := E.trans e9
        rcases he with ⟨h, _⟩ | ⟨u, h, he⟩
        · simp only [stp] at h
          rw [if_neg hb] at h; cases h
        · have hs := h
          simp only [stp] at h
          rw [if_neg hb] at h
          cases h
          exact ⟨n, by omega, _, k, pm, ys, ms, _, _, rfl, ok2 hs he (I3.sm E)⟩
    | part =>
      refine rd_no ((est_val (es_is (es_var (K := K) (i := 7) rfl (hv3.same E)))).eq rfl) rfl fun H9 e9 => ?_
      replace E := E.trans e9
      refine rd_no (est_op (es_op od_eqW (es_var (K := K) (i := 7) rfl (hv3.same E)) (es_w wIn))) (by first | decide | exact decide_eq_false (nn _ (by decide))) fun H9 e9 => ?_
      replace E := E.trans e9
      refine rd_no (est_op (es_op od_eqW (es_var (K := K) (i := 7) rfl (hv3.same E)) (es_w wOut))) (by first | decide | exact decide_eq_false (nn _ (by decide))) fun H9 e9 => ?_
      replace E := E.trans e9
      refine rd_no (est_op (es_op od_eqW (es_var (K := K) (i := 7) rfl (hv3.same E)) (es_w wTerm))) (by first | decide | exact decide_eq_false (nn _ (by decide))) fun H9 e9 => ?_
      replace E := E.trans e9
      refine rd_no (est_op (es_op od_eqW (es_var (K := K) (i := 7) rfl (hv3.same E)) (es_w wRow))) (by first | decide | exact decide_eq_false (nn _ (by decide))) fun H9 e9 => ?_
      replace E := E.trans e9
      refine rd_no (est_and (b := false) (est_op (es_op od_eqW (es_var (K := K) (i := 7) rfl (hv3.same E)) (es_w wArrow))) fun hc => absurd hc (by first | decide | (rw [decide_eq_false (nn _ (by decide))]; decide))) (by first | decide | (rw [decide_eq_false (nn _ (by decide))]; rfl)) fun H9 e9 => ?_
      replace E := E.trans e9
      refine rd_no (est_and (b := false) (est_op (es_op od_eqW (es_var (K := K) (i := 7) rfl (hv3.same E)) (es_w wMore))) fun hc => absurd hc (by first | decide | (rw [decide_eq_false (nn _ (by decide))]; decide))) (by first | decide | (rw [decide_eq_false (nn _ (by decide))]; rfl)) fun H9 e9 => ?_
      replace E := E.trans e9
      refine rd_if (b := decide (hd ws = wOpn)) ((est_and (b := decide (hd ws = wOpn)) (est_op (es_op od_eqW (es_var (K := K) (i := 7) rfl (hv3.same E)) (es_w wPart))) fun _ => (est_op (es_op od_eqW (es_var (K := K) (i := 8) rfl (dt_w (hd ws))) (es_w wOpn)))).eq (by rfl)) (fun H9 e9 hb => ?_) (fun H9 e9 hb => ?_)
      · have hb : hd ws = wOpn := by simpa using hb
        have hk9 := klt hb (by decide)
        replace E := E.trans e9
        have I5 := I3.sm E
        refine ⟨_, rfl, .inl ⟨rfl, _, SqL.of I5.hw⟩, (esa_cons (es_lst (K := K) (esa_cons (es_w wCls) (esa_cons (es_w wTerm) esa_nil))) esa_nil).at fun vs H6 e6 hvs => ?_⟩
        obtain ⟨v5, rfl, hv5⟩ := hvs.one_inv
        cases hv5 with
        | @lst b zs _ hb5 hz5 =>
        refine ext (E.trans e6) (A := [.term, .word wCls]) (fun y hy => by
          simp only [List.mem_cons, List.not_mem_nil, or_false] at hy
          rcases hy with rfl | rfl <;> first | trivial | (show _ ∈ tokWs; decide)) hb5 hz5 (hne (by simp)) (by simp) (ti := 0) fun I7 => ?_
        refine rd_set (K := K) (d := .int ((k + 1 : Nat) : Int)) ((es_op od_add (es_var (i := 3) rfl (.int _)) es_int).eq (by congr 1)) fun v9 H9 e9 hv9 => ?_
        obtain rfl := dt_int hv9
        rcases he with ⟨h, _⟩ | ⟨u, h, he⟩
        · simp only [stp] at h
          rw [if_pos hb] at h; cases h
        · have hs := h
          simp only [stp] at h
          rw [if_pos hb] at h
          cases h
          exact ⟨n, by omega, _, k + 1, pm, _, ms, _, _, rfl, ok2 hs he ((I7.sm e9).step hk9)⟩
      · have hb : ¬ hd ws = wOpn := by simpa using hb
        replace E := E.trans e9
        refine rd_no (est_and (b := false) (est_op (es_op od_eqW (es_var (K := K) (i := 7) rfl (hv3.same E)) (es_w wOver))) fun hc => absurd hc (by first | decide | (rw [decide_eq_false (nn _ (by decide))]; decide))) (by first | decide | (rw [decide_eq_false (nn _ (by decide))]; rfl)) fun H9 e9 => ?_
        replace E := E.trans e9
        refine rd_yes (est_op (es_op (od_notIn (ws := [wMore, wArrow, wOver])) (es_var (K := K) (i := 7) rfl (hv3.same E)) (es_lst (esa_cons (es_w wMore) (esa_cons (es_w wArrow) (esa_cons (es_w wOver) esa_nil)))))) (by first | decide | (simp [nn wMore (by decide), nn wArrow (by decide), nn wOver (by decide)])) fun H9 e9 => ?_
        replace E := E.trans e9
        have I5 := I3.sm E
        have hvp : v = wV wPart := by cases hv3; rfl
        subst hvp
        refine ⟨_, rfl, _, rfl, _, rfl, _, rfl, _, rfl, by (show 3 ≤ sizeLine; decide), fun st hst => ?_⟩
        have est : Same _ (upd _ st (.lst [.ref pa, .ref pb, .ref pm])) := same_new hst _
        refine ⟨wPart, hd ws, st, pa, pb, pm, ar, _, ms, rfl, upd_same, est _ _ I5.ha, est _ _ I5.hb, est _ _ I5.hm, by simp; omega, by rw [I5.dm.len]; simp [madeD]; omega, wd1, wd2, wd3, I.aro, ln1, fun z => absurd z (by decide), fun _ H6 vt e6 hvt => ?_, fun _ z => absurd rfl z⟩
        have I6 := (I5.sm est).sm e6
        cases hlo : lone (hd ws) ar with
        | none =>
          rw [hlo] at hvt
          refine ⟨false, rfl, iteT ?_⟩
          have hr : res = none := by
            rcases he with ⟨_, h⟩ | ⟨u, h, _⟩
            · exact h
            · simp only [stp] at h
              rw [if_neg hb, hlo] at h
              cases h
          refine rd_ret (K := K) (es_tup (esa_cons (es_var (i := 3) rfl (.int _)) (esa_cons es_non esa_nil))) fun v9 H10 e10 h9 => q v9 (.int (k : Nat)) H10 ((same_own I6.same I6.nm _).trans e10) (by rw [hr]; exact h9)
        | some t =>
          rw [hlo] at hvt
          refine ⟨true, rfl, iteF ?_⟩
          have I7 := I6.putM (ys := ms ++ [vt]) (md := t :: md) (by rw [show madeD (t :: md) = madeD md ++ [t.data] by simp [madeD]]; exact I6.dm.app (.one hvt))
          have hk9 := klt2 (fun z => by rw [z, lone_nil] at hlo; cases hlo)
          refine rd_set (K := K) (d := .int ((k + 1 : Nat) : Int)) ((es_op od_add (es_var (i := 3) rfl (.int _)) es_int).eq (by congr 1)) fun v9 H9 e9 hv9 => ?_
          obtain rfl := dt_int hv9
          rcases he with ⟨h, _⟩ | ⟨u, h, he⟩
          · simp only [stp] at h
            rw [if_neg hb, hlo] at h; cases h
          · have hs := h
            simp only [stp] at h
            rw [if_neg hb, hlo] at h
            cases h
            exact ⟨n, by omega, _, k + 1, pm, _, _, _, _, rfl, ok2 hs he ((I7.sm e9).step hk9)⟩
    | binder =>
      refine rd_no ((est_val (es_is (es_var (K := K) (i := 7) rfl (hv3.same E)))).eq rfl) rfl fun H9 e9 => ?_
      replace E := E.trans e9
      refine rd_no (est_op (es_op od_eqW (es_var (K := K) (i := 7) rfl (hv3.same E)) (es_w wIn))) (by first | decide | exact decide_eq_false (nn _ (by decide))) fun H9 e9 => ?_
      replace E := E.trans e9
      refine rd_no (est_op (es_op od_eqW (es_var (K := K) (i := 7) rfl (hv3.same E)) (es_w wOut))) (by first | decide | exact decide_eq_false (nn _ (by decide))) fun H9 e9 => ?_
      replace E := E.trans e9
      refine rd_no (est_op (es_op od_eqW (es_var (K := K) (i := 7) rfl (hv3.same E)) (es_w wTerm))) (by first | decide | exact decide_eq_false (nn _ (by decide))) fun H9 e9 => ?_
      replace E := E.trans e9
      refine rd_no (est_op (es_op od_eqW (es_var (K := K) (i := 7) rfl (hv3.same E)) (es_w wRow))) (by first | decide | exact decide_eq_false (nn _ (by decide))) fun H9 e9 => ?_
      replace E := E.trans e9
      refine rd_no (est_and (b := false) (est_op (es_op od_eqW (es_var (K := K) (i := 7) rfl (hv3.same E)) (es_w wArrow))) fun hc => absurd hc (by first | decide | (rw [decide_eq_false (nn _ (by decide))]; decide))) (by first | decide | (rw [decide_eq_false (nn _ (by decide))]; rfl)) fun H9 e9 => ?_
      replace E := E.trans e9
      refine rd_no (est_and (b := false) (est_op (es_op od_eqW (es_var (K := K) (i := 7) rfl (hv3.same E)) (es_w wMore))) fun hc => absurd hc (by first | decide | (rw [decide_eq_false (nn _ (by decide))]; decide))) (by first | decide | (rw [decide_eq_false (nn _ (by decide))]; rfl)) fun H9 e9 => ?_
      replace E := E.trans e9
      refine rd_no (est_and (b := false) (est_op (es_op od_eqW (es_var (K := K) (i := 7) rfl (hv3.same E)) (es_w wPart))) fun hc => absurd hc (by first | decide | (rw [decide_eq_false (nn _ (by decide))]; decide))) (by first | decide | (rw [decide_eq_false (nn _ (by decide))]; rfl)) fun H9 e9 => ?_
      replace E := E.trans e9
      refine rd_no (est_and (b := false) (est_op (es_op od_eqW (es_var (K := K) (i := 7) rfl (hv3.same E)) (es_w wOver))) fun hc => absurd hc (by first | decide | (rw [decide_eq_false (nn _ (by decide))]; decide))) (by first | decide | (rw [decide_eq_false (nn _ (by decide))]; rfl)) fun H9 e9 => ?_
      replace E := E.trans e9
      refine rd_yes (est_op (es_op (od_notIn (ws := [wMore, wArrow, wOver])) (es_var (K := K) (i := 7) rfl (hv3.same E)) (es_lst (esa_cons (es_w wMore) (esa_cons (es_w wArrow) (esa_cons (es_w wOver) esa_nil)))))) (by first | decide | (simp [nn wMore (by decide), nn wArrow (by decide), nn wOver (by decide)])) fun H9 e9 => ?_
      replace E := E.trans e9
      have I5 := I3.sm E
      have hvp : v = wV wBinder := by cases hv3; rfl
      subst hvp
      refine ⟨_, rfl, _, rfl, _, rfl, _, rfl, _, rfl, by (show 3 ≤ sizeLine; decide), fun st hst => ?_⟩
      have est : Same _ (upd _ st (.lst [.ref pa, .ref pb, .ref pm])) := same_new hst _
      refine ⟨wBinder, hd ws, st, pa, pb, pm, ar, _, ms, rfl, upd_same, est _ _ I5.ha, est _ _ I5.hb, est _ _ I5.hm, by simp; omega, by rw [I5.dm.len]; simp [madeD]; omega, wd1, wd2, wd3, I.aro, ln1, fun _ H6 e6 => ?_, fun z => absurd z (by decide), fun z _ => absurd rfl z⟩
      have I6 := (I5.sm est).sm e6
      cases hbn : bnd (hd ws) with
      | none =>
        refine ⟨false, rfl, iteT ?_⟩
        have hr : res = none := by
          rcases he with ⟨_, h⟩ | ⟨u, h, _⟩
          · exact h
          · simp only [stp] at h
            rw [hbn] at h
            cases h
        refine rd_ret (K := K) (es_tup (esa_cons (es_var (i := 3) rfl (.int _)) (esa_cons es_non esa_nil))) fun v9 H10 e10 h9 => q v9 (.int (k : Nat)) H10 ((same_own I6.same I6.nb _).trans e10) (by rw [hr]; exact h9)
      | some b =>
        refine ⟨true, rfl, iteF ?_⟩
        have I7 := I6.putB (bg := b :: bg) (fun y hy => by
          rcases List.mem_cons.mp hy with rfl | hy
          · exact (bnd_w hbn).2
          · exact I.bgo y hy)
        rw [show ((b :: bg).map fun n : Nat => V.int (n : Int)).reverse = (bg.map fun n : Nat => V.int (n : Int)).reverse ++ [aV (some b)] by simp [aV]] at I7
        have hk9 := klt2 (fun z => by rw [z] at hbn; simp [bnd] at hbn)
        refine rd_set (K := K) (d := .int ((k + 1 : Nat) : Int)) ((es_op od_add (es_var (i := 3) rfl (.int _)) es_int).eq (by congr 1)) fun v9 H9 e9 hv9 => ?_
        obtain rfl := dt_int hv9
        rcases he with ⟨h, _⟩ | ⟨u, h, he⟩
        · simp only [stp] at h
          rw [hbn] at h; cases h
        · have hs := h
          simp only [stp] at h
          rw [hbn] at h
          cases h
          exact ⟨n, by omega, _, k + 1, pm, _, _, _, _, rfl, ok2 hs he ((I7.sm e9).step hk9)⟩
    | word z =>
      have nn : ∀ y ∈ ([wIn, wOut, wTerm, wRow, wArrow, wMore, wPart, wOver, wBinder] : List Wd), z ≠ y := by
        have : ∀ z ∈ tokWs, ∀ y ∈ ([wIn, wOut, wTerm, wRow, wArrow, wMore, wPart, wOver, wBinder] : List Wd), z ≠ y := by decide
        exact this z okx
      have znil : z ≠ [] := by
        have : ∀ z ∈ tokWs, z ≠ [] := by decide
        exact this z okx
      refine rd_no ((est_val (es_is (es_var (K := K) (i := 7) rfl (hv3.same E)))).eq rfl) rfl fun H9 e9 => ?_
      replace E := E.trans e9
      refine rd_no (est_op (es_op od_eqW (es_var (K := K) (i := 7) rfl (hv3.same E)) (es_w wIn))) (by first | decide | exact decide_eq_false (nn _ (by decide))) fun H9 e9 => ?_
      replace E := E.trans e9
      refine rd_no (est_op (es_op od_eqW (es_var (K := K) (i := 7) rfl (hv3.same E)) (es_w wOut))) (by first | decide | exact decide_eq_false (nn _ (by decide))) fun H9 e9 => ?_
      replace E := E.trans e9
      refine rd_no (est_op (es_op od_eqW (es_var (K := K) (i := 7) rfl (hv3.same E)) (es_w wTerm))) (by first | decide | exact decide_eq_false (nn _ (by decide))) fun H9 e9 => ?_
      replace E := E.trans e9
      refine rd_no (est_op (es_op od_eqW (es_var (K := K) (i := 7) rfl (hv3.same E)) (es_w wRow))) (by first | decide | exact decide_eq_false (nn _ (by decide))) fun H9 e9 => ?_
      replace E := E.trans e9
      refine rd_no (est_and (b := false) (est_op (es_op od_eqW (es_var (K := K) (i := 7) rfl (hv3.same E)) (es_w wArrow))) fun hc => absurd hc (by first | decide | (rw [decide_eq_false (nn _ (by decide))]; decide))) (by first | decide | (rw [decide_eq_false (nn _ (by decide))]; rfl)) fun H9 e9 => ?_
      replace E := E.trans e9
      refine rd_no (est_and (b := false) (est_op (es_op od_eqW (es_var (K := K) (i := 7) rfl (hv3.same E)) (es_w wMore))) fun hc => absurd hc (by first | decide | (rw [decide_eq_false (nn _ (by decide))]; decide))) (by first | decide | (rw [decide_eq_false (nn _ (by decide))]; rfl)) fun H9 e9 => ?_
      replace E := E.trans e9
      refine rd_no (est_and (b := false) (est_op (es_op od_eqW (es_var (K := K) (i := 7) rfl (hv3.same E)) (es_w wPart))) fun hc => absurd hc (by first | decide | (rw [decide_eq_false (nn _ (by decide))]; decide))) (by first | decide | (rw [decide_eq_false (nn _ (by decide))]; rfl)) fun H9 e9 => ?_
      replace E := E.trans e9
      refine rd_no (est_and (b := false) (est_op (es_op od_eqW (es_var (K := K) (i := 7) rfl (hv3.same E)) (es_w wOver))) fun hc => absurd hc (by first | decide | (rw [decide_eq_false (nn _ (by decide))]; decide))) (by first | decide | (rw [decide_eq_false (nn _ (by decide))]; rfl)) fun H9 e9 => ?_
      replace E := E.trans e9
      refine rd_yes (est_op (es_op (od_notIn (ws := [wMore, wArrow, wOver])) (es_var (K := K) (i := 7) rfl (hv3.same E)) (es_lst (esa_cons (es_w wMore) (esa_cons (es_w wArrow) (esa_cons (es_w wOver) esa_nil)))))) (by first | decide | (simp [nn wMore (by decide), nn wArrow (by decide), nn wOver (by decide)])) fun H9 e9 => ?_
      replace E := E.trans e9
      have I5 := I3.sm E
      have hvp : v = wV z := by cases hv3; rfl
      subst hvp
      refine ⟨_, rfl, _, rfl, _, rfl, _, rfl, _, rfl, by (show 3 ≤ sizeLine; decide), fun st hst => ?_⟩
      have est : Same _ (upd _ st (.lst [.ref pa, .ref pb, .ref pm])) := same_new hst _
      refine ⟨z, hd ws, st, pa, pb, pm, ar, _, ms, rfl, upd_same, est _ _ I5.ha, est _ _ I5.hb, est _ _ I5.hm, by simp; omega, by rw [I5.dm.len]; simp [madeD]; omega, wd1, wd2, wd3, I.aro, ln1, fun y => absurd y (nn _ (by decide)), fun y => absurd y (nn _ (by decide)), fun _ _ H6 e6 => ?_⟩
      have I6 := (I5.sm est).sm e6
      by_cases hz : hd ws = z
      · rw [decide_eq_true hz]
        refine ⟨true, rfl, iteF ?_⟩
        have hk9 := klt hz znil
        refine rd_set (K := K) (d := .int ((k + 1 : Nat) : Int)) ((es_op od_add (es_var (i := 3) rfl (.int _)) es_int).eq (by congr 1)) fun v9 H9 e9 hv9 => ?_
        obtain rfl := dt_int hv9
        rcases he with ⟨h, _⟩ | ⟨u, h, he⟩
        · simp only [stp] at h
          rw [if_pos hz] at h; cases h
        · have hs := h
          simp only [stp] at h
          rw [if_pos hz] at h
          cases h
          exact ⟨n, by omega, _, k + 1, pm, _, _, _, _, rfl, ok2 hs he ((I6.sm e9).step hk9)⟩
      · rw [decide_eq_false hz]
        refine ⟨false, rfl, iteT ?_⟩
        have hr : res = none := by
          rcases he with ⟨_, h⟩ | ⟨u, h, _⟩
          · exact h
          · simp only [stp] at h
            rw [if_neg hz] at h
            cases h
        refine rd_ret (K := K) (es_tup (esa_cons (es_var (i := 3) rfl (.int _)) (esa_cons es_non esa_nil))) fun v9 H10 e10 h9 => q v9 (.int (k : Nat)) H10 (I6.same.trans e10) (by rw [hr]; exact h9)
    | build z =>
      refine rd_yes ((est_val (es_is (es_var (K := K) (i := 7) rfl hv3))).eq rfl) rfl fun H9 e9 => ?_
      have I5 := I3.sm e9
      rcases he with ⟨h, _⟩ | ⟨u, h, he⟩
      · simp only [stp] at h
        split at h <;> cases h
      · have hs := h
        simp only [stp] at h
        split at h
        · cases h
          refine ⟨_, rfl, _, rfl, v, .ref pm, .build z, _, _, rfl, hv3.same e9, .lst I5.hm I5.dm, rfl, ln2, fun p H6 xs6 e6 hn6 hp6 hx6 => ?_⟩
          exact ⟨n, by omega, _, k, p, ys, xs6, _, _, rfl, ok2 hs he (I5.newM e6 hn6 hp6 hx6)⟩
        · cases h
    | build2 z =>
      refine rd_yes ((est_val (es_is (es_var (K := K) (i := 7) rfl hv3))).eq rfl) rfl fun H9 e9 => ?_
      have I5 := I3.sm e9
      rcases he with ⟨h, _⟩ | ⟨u, h, he⟩
      · simp only [stp] at h
        split at h <;> cases h
      · have hs := h
        simp only [stp] at h
        split at h
        · cases h
          refine ⟨_, rfl, _, rfl, v, .ref pm, .build2 z, _, _, rfl, hv3.same e9, .lst I5.hm I5.dm, rfl, ln2, fun p H6 xs6 e6 hn6 hp6 hx6 => ?_⟩
          exact ⟨n, by omega, _, k, p, ys, xs6, _, _, rfl, ok2 hs he (I5.newM e6 hn6 hp6 hx6)⟩
        · cases h
    | build3 z =>
      refine rd_yes ((est_val (es_is (es_var (K := K) (i := 7) rfl hv3))).eq rfl) rfl fun H9 e9 => ?_
      have I5 := I3.sm e9
      rcases he with ⟨h, _⟩ | ⟨u, h, he⟩
      · simp only [stp] at h
        split at h <;> cases h
      · have hs := h
        simp only [stp] at h
        split at h
        · cases h
          refine ⟨_, rfl, _, rfl, v, .ref pm, .build3 z, _, _, rfl, hv3.same e9, .lst I5.hm I5.dm, rfl, ln2, fun p H6 xs6 e6 hn6 hp6 hx6 => ?_⟩
          exact ⟨n, by omega, _, k, p, ys, xs6, _, _, rfl, ok2 hs he (I5.newM e6 hn6 hp6 hx6)⟩
        · cases h
  · have hwt : s.wt = [] := by
      cases hx : s.wt with
      | nil => rfl
      | cons x W =>
        rw [hx, wishesD_cons] at hb
        simp at hb
    cases m with
    | zero =>
      obtain ⟨_, t, hmd, hr⟩ := he
      have dm := I.dm
      rw [hmd] at dm
      dsimp only
      refine rd_ret (K := K) (d := .tuple [.none, t.data]) (es_tup (esa_cons es_non (esa_cons (es_op (od_ixL (ds := [t.data]) atI_0) (es_var (i := 6) rfl ((Dt.lst I.hm dm).same e2)) es_int) esa_nil))) fun v9 H9 e9 h9 => q v9 .none H9 ((I.same.trans e2).trans e9) (by rw [hr]; exact h9)
    | succ n =>
      rcases he with ⟨h, _⟩ | ⟨u, h, _⟩
      · obtain ⟨ar, bg, md, wt, ws⟩ := s
        cases hwt
        cases h
      · obtain ⟨ar, bg, md, wt, ws⟩ := s
        cases hwt
        cases h
end
end K83
namespace K83
open PySem PySem.Spec PyProof.Rows L2
/-! ### what is read is well made, and no higher than its words are many -/
theorem lone_ok {w : Wd} {ar : Ar} {t : T} (h : lone w ar = some t) : t.ok ∧ t.ht = 1 := by
  unfold lone at h
  split at h
  · rename_i hn; cases h; exact ⟨hn, rfl⟩
  split at h
  · cases e : hgt (w.drop 1) with
    | none => rw [e] at h; cases h
    | some k => rw [e] at h; cases h; exact ⟨hgt_le e, rfl⟩
  split at h
  · split at h
    · rename_i hn; cases h; exact ⟨hn, rfl⟩
    · cases h
  split at h
  · unfold makerOf at h
    split at h
    · rename_i hn
      cases e : figs 30 (behind 35 w) with
      | none => rw [e] at h; cases h
      | some k => rw [e] at h; cases h; exact ⟨hn, rfl⟩
    · cases h
  split at h
  · unfold eaterOf at h
    split at h
    · rename_i hn
      cases e : hgt (behind 33 w) with
      | none => rw [e] at h; cases h
      | some k => rw [e] at h; cases h; exact ⟨⟨hn, hgt_le e⟩, rfl⟩
    · cases h
  · cases e : placeOf w ar with
    | none => rw [e] at h; cases h
    | some k => rw [e] at h; cases h; exact ⟨trivial, rfl⟩
def Md.base : Md → Nat
  | .more f => f.ht
  | _ => 0
def Md.fok : Md → Prop
  | .more f => f.ok
  | _ => True
theorem cost_take_le {p : Nat} (ws : List Wd) (k : Nat) : cost p (ws.take k) ≤ cost p ws := by
  have h : cost p (ws.take k ++ ws.drop k) = cost p ws := by rw [List.take_append_drop]
  have h2 : cost p (ws.take k ++ ws.drop k) = cost p (ws.take k) + cost p (ws.drop k) := by unfold cost; rw [List.map_append, List.sum_append]
  omega
theorem rd_ok_ : ∀ (n : Nat) (m : Md) (ar : Ar) (ws : List Wd) (t : T) (r : List Wd), 4 * ws.length + m.rank ≤ n → m.fok → rd m ar ws = some (t, r) → t.ok ∧ t.ht + cost 0 r ≤ m.base + cost 0 ws := by
  intro n
  induction n with
  | zero =>
    intro m ar ws t r hn _ h
    have hw : ws = [] := List.eq_nil_of_length_eq_zero (by omega)
    subst hw
    have := rd_lt h
    cases m <;> simp [Md.rank] at hn
    simp [Md.lt] at this
  | succ n ih =>
    intro m ar ws t r hn hf h
    have key : ∀ {m' : Md} {ar' : Ar} {ws' : List Wd} {t' : T} {r' : List Wd}, rd m' ar' ws' = some (t', r') → 4 * ws'.length + m'.rank ≤ n → m'.fok → t'.ok ∧ t'.ht + cost 0 r' ≤ m'.base + cost 0 ws' ∧ 1 ≤ t'.ht := by
      intro m' ar' ws' t' r' e hl hk
      obtain ⟨h1, h2⟩ := ih m' ar' _ _ _ hl hk e
      exact ⟨h1, h2, t'.ht_pos⟩
    have d : ∀ (l : List Wd) (k : Nat), (l.drop k).length = l.length - k := fun l k => List.length_drop
    have cd : ∀ (l : List Wd) (k : Nat), cost 0 (l.drop k) ≤ cost 0 l := fun l k => cost_drop_le l 0 k (Nat.zero_le _)
    cases m with
    | term =>
      rw [rd_term] at h
      simp only [Md.rank, Md.base] at hn ⊢
      split at h
      · rename_i hh
        have hne : hd ws ≠ [] := by rcases hh with h | h <;> rw [h] <;> decide
        have hlen := drop_lt hne (k := 3) (by decide)
        have d3 := d ws 3
        have c3 := cd ws 3
        cases eb : bnd (hd (ws.drop 1)) with
        | none => rw [eb] at h; cases h
        | some k =>
          rw [eb, Option.bind_some] at h
          split at h
          · cases e : rd .term ar (ws.drop 3) with
            | none => rw [e] at h; cases h
            | some p =>
              obtain ⟨s, r1⟩ := p
              rw [e, Option.bind_some] at h
              obtain ⟨k1, k2, k3⟩ := key e (by simp only [Md.rank]; omega) trivial
              simp only [Md.base] at h k2
              have d1 := d r1 1
              have l1 := term_lt e
              have c1 := cd r1 1
              split at h
              · cases e2 : rd .term (ar ++ [some k]) (r1.drop 1) with
                | none => rw [e2] at h; cases h
                | some q =>
                  obtain ⟨b, r2⟩ := q
                  rw [e2, Option.bind_some] at h
                  cases h
                  obtain ⟨j1, j2, j3⟩ := key e2 (by simp only [Md.rank]; omega) trivial
                  simp only [Md.base] at j2
                  refine ⟨⟨by rcases hh with h | h <;> rw [h] <;> simp, k1, j1⟩, ?_⟩
                  show max s.ht b.ht + 1 + cost 0 r2 ≤ _
                  omega
              · cases h
          · cases h
      · cases e : rd .row ar ws with
        | none => rw [e] at h; cases h
        | some p =>
          obtain ⟨s, r1⟩ := p
          rw [e, Option.bind_some] at h
          obtain ⟨k1, k2, k3⟩ := key e (by simp only [Md.rank]; omega) trivial
          simp only [Md.base] at h k2
          have l1 := row_lt e
          have d1 := d r1 1
          have c1 := cd r1 1
          split at h
          · cases e2 : rd .term (ar ++ [none]) (r1.drop 1) with
            | none => rw [e2] at h; cases h
            | some q =>
              obtain ⟨b, r2⟩ := q
              rw [e2, Option.bind_some] at h
              cases h
              obtain ⟨j1, j2, j3⟩ := key e2 (by simp only [Md.rank]; omega) trivial
              simp only [Md.base] at j2
              have := term_lt e2
              refine ⟨⟨by simp, k1, j1⟩, ?_⟩
              show max s.ht b.ht + 1 + cost 0 r2 ≤ _
              omega
          · cases h
            exact ⟨k1, k2⟩
    | row =>
      rw [rd_row] at h
      simp only [Md.rank, Md.base] at hn ⊢
      have d1 := d ws 1
      have c1w := cd ws 1
      split at h
      · rename_i hh
        have hne : hd ws ≠ [] := by rcases hh with h | h <;> rw [h] <;> decide
        have hlen := drop_lt hne (k := 1) (by decide)
        cases e : rd .part ar (ws.drop 1) with
        | none => rw [e] at h; cases h
        | some p =>
          obtain ⟨x, r1⟩ := p
          rw [e, Option.bind_some] at h
          obtain ⟨k1, k2, k3⟩ := key e (by simp only [Md.rank]; omega) trivial
          have l1 := part_lt e
          simp only [Md.base] at h k2
          cases e2 : rd .part ar r1 with
          | none => rw [e2] at h; cases h
          | some q =>
            obtain ⟨y, r2⟩ := q
            rw [e2, Option.bind_some] at h
            obtain ⟨j1, j2, j3⟩ := key e2 (by simp only [Md.rank]; omega) trivial
            have l2 := part_lt e2
            simp only [Md.base] at h j2
            cases e3 : rd .part ar r2 with
            | none => rw [e3] at h; cases h
            | some s =>
              obtain ⟨z, r3⟩ := s
              rw [e3, Option.bind_some] at h
              cases h
              obtain ⟨i1, i2, i3⟩ := key e3 (by simp only [Md.rank]; omega) trivial
              simp only [Md.base] at i2
              refine ⟨⟨hh, k1, j1, i1⟩, ?_⟩
              show max x.ht (max y.ht z.ht) + 1 + cost 0 r3 ≤ _
              omega
      · split at h
        · rename_i hh
          have hne : hd ws ≠ [] := by rw [hh]; decide
          have hlen := drop_lt hne (k := 1) (by decide)
          cases e : rd .part ar (ws.drop 1) with
          | none => rw [e] at h; cases h
          | some p =>
            obtain ⟨x, r1⟩ := p
            rw [e, Option.bind_some] at h
            obtain ⟨k1, k2, k3⟩ := key e (by simp only [Md.rank]; omega) trivial
            have l1 := part_lt e
            simp only [Md.base] at h k2
            cases e2 : rd .part ar r1 with
            | none => rw [e2] at h; cases h
            | some q =>
              obtain ⟨y, r2⟩ := q
              rw [e2, Option.bind_some] at h
              cases h
              obtain ⟨j1, j2, j3⟩ := key e2 (by simp only [Md.rank]; omega) trivial
              simp only [Md.base] at j2
              refine ⟨⟨by simp, k1, j1⟩, ?_⟩
              show max x.ht y.ht + 1 + cost 0 r2 ≤ _
              omega
        · cases e : rd .part ar ws with
          | none => rw [e] at h; cases h
          | some p =>
            obtain ⟨x, r1⟩ := p
            rw [e, Option.bind_some] at h
            obtain ⟨k1, k2, k3⟩ := key e (by simp only [Md.rank]; omega) trivial
            have l1 := part_lt e
            simp only [Md.base] at h k2
            obtain ⟨j1, j2, j3⟩ := key h (by simp only [Md.rank]; omega) k1
            simp only [Md.base] at j2
            exact ⟨j1, by omega⟩
    | part =>
      rw [rd_part] at h
      simp only [Md.rank, Md.base] at hn ⊢
      have d1 := d ws 1
      have c1w := cd ws 1
      split at h
      · rename_i hh
        have hne : hd ws ≠ [] := by rw [hh]; decide
        have hlen := drop_lt hne (k := 1) (by decide)
        cases e : rd .term ar (ws.drop 1) with
        | none => rw [e] at h; cases h
        | some p =>
          obtain ⟨x, r1⟩ := p
          rw [e, Option.bind_some] at h
          obtain ⟨k1, k2, k3⟩ := key e (by simp only [Md.rank]; omega) trivial
          simp only [Md.base] at h k2
          split at h
          · cases h
            have := d r1 1
            have c1 := cd r1 1
            exact ⟨k1, by omega⟩
          · cases h
      · cases e : lone (hd ws) ar with
        | none => rw [e] at h; cases h
        | some t =>
          have hlen := drop_lt (lone_ne e) (k := 1) (by decide)
          rw [e] at h
          cases h
          obtain ⟨o1, o2⟩ := lone_ok e
          rename_i hno
          have hk : 0 < ws.length := List.length_pos_iff.mpr (hd_ne (lone_ne e))
          have hs := cost_step 0 (ws := ws) (k := 0) hk
          rw [List.drop_zero] at hs
          have hw : cw 0 (hd ws) = 1 := by unfold cw; rw [if_neg hno]
          have hs : cost 0 ws = cw 0 (hd ws) + cost 0 (ws.drop 1) := hs
          exact ⟨o1, by omega⟩
    | more f =>
      rw [rd_more] at h
      simp only [Md.rank, Md.base] at hn ⊢
      split at h
      · cases e : rd .part ar ws with
        | none => rw [e] at h; cases h
        | some p =>
          obtain ⟨x, r1⟩ := p
          rw [e, Option.bind_some] at h
          obtain ⟨k1, k2, k3⟩ := key e (by simp only [Md.rank]; omega) trivial
          have l1 := part_lt e
          simp only [Md.base] at h k2
          obtain ⟨j1, j2, j3⟩ := key h (by simp only [Md.rank]; omega) ⟨by simp, hf, k1⟩
          have hfp := f.ht_pos
          have j2 : t.ht + cost 0 r ≤ max f.ht x.ht + 1 + cost 0 r1 := j2
          exact ⟨j1, by omega⟩
      · cases h
        exact ⟨hf, Nat.le_refl _⟩
theorem rdW_ok {ws : List Wd} {k : Nat} {t : T} (h : rdW ws k = some t) : t.ok ∧ t.ht ≤ cost 0 ws := by
  unfold rdW at h
  cases e : rd .term ((List.range k).map some) ws with
  | none => rw [e] at h; cases h
  | some p =>
    obtain ⟨t', r⟩ := p
    rw [e] at h
    cases r with
    | nil =>
      cases h
      obtain ⟨h1, h2⟩ := rd_ok_ _ .term _ _ _ _ (Nat.le_refl _) trivial e
      simp only [Md.base] at h2
      exact ⟨h1, by omega⟩
    | cons _ _ => cases h
theorem rdW_lt {ws : List Wd} {k m : Nat} {t : T} (h : rdW ws k = some t) (hl : cost 0 ws ≤ m) : t.ok ∧ t.ht ≤ m := ⟨(rdW_ok h).1, Nat.le_trans (rdW_ok h).2 hl⟩
/-- a line keeps the rows well made -/
theorem lineF_ok {j : Nat} {ws : List Wd} {rows rows' : List Row} (h : lineF ws rows = some rows') (hc : cost 0 ws ≤ maxHt) (hj : j ≤ 999) (hr : RowsOk j rows) : RowsOk (j + 1) rows' := by
  have up : ∀ r ∈ rows, r.ok maxHt ∧ r.wide (j + 1) := fun r hm => by
    obtain ⟨h1, h2⟩ := hr.2 r hm
    refine ⟨h1, ?_⟩
    cases r with
    | thing n hh bs ms => exact ⟨Nat.le_succ_of_le h2.1, Nat.le_succ_of_le h2.2.1, fun l hl => Nat.le_succ_of_le (h2.2.2 l hl)⟩
    | mean _ _ _ => trivial
    | hold _ _ => trivial
  have app : ∀ r : Row, r.ok maxHt → r.wide (j + 1) → RowsOk (j + 1) (rows ++ [r]) := fun r h1 h2 => by
    refine ⟨by rw [List.length_append]; exact Nat.succ_le_succ hr.1, fun x hx => ?_⟩
    rcases List.mem_append.mp hx with hx | hx
    · exact up x hx
    · rw [List.mem_singleton.mp hx]; exact ⟨h1, h2⟩
  have put : ∀ r : Row, r.ok maxHt → r.wide (j + 1) → ∀ r0, rows.getLast? = some r0 → RowsOk (j + 1) (rows.dropLast ++ [r]) := fun r h1 h2 r0 h0 => by
    have h0 : rows ≠ [] := by rintro rfl; cases h0
    have := List.length_pos_iff.mpr h0
    refine ⟨by rw [List.length_append, List.length_dropLast]; have := hr.1; simp; omega, fun x hx => ?_⟩
    rcases List.mem_append.mp hx with hx | hx
    · exact up x (List.dropLast_subset _ hx)
    · rw [List.mem_singleton.mp hx]; exact ⟨h1, h2⟩
  have dl : ∀ k, cost 0 (ws.drop k) ≤ maxHt := fun k => Nat.le_trans (cost_drop_le ws 0 k (Nat.zero_le _)) hc
  unfold lineF at h
  split at h
  · unfold lThing at h
    split at h
    · rename_i hh
      cases e : hgt (w2 ws) with
      | none => rw [e] at h; cases h
      | some k =>
        rw [e] at h
        cases h
        exact app _ ⟨hh.2, hgt_le e, by simp, by simp, by simp, by simp, by simp⟩ ⟨by simp, by simp, by simp⟩
    · cases h
  split at h
  · unfold lBound at h
    split at h
    · rename_i n hh bs hl
      obtain ⟨o1, o2⟩ := hr.2 _ (List.mem_of_getLast? hl)
      cases e : rdW (ws.drop 1) bs.length with
      | none => rw [e] at h; cases h
      | some t =>
        rw [e] at h
        cases h
        refine put _ ⟨o1.1, o1.2.1, fun u hu => ?_, by simp, ?_, by simp, by simp⟩ ⟨?_, by simp, by simp⟩ _ hl
        · rcases List.mem_append.mp hu with hu | hu
          · exact o1.2.2.1 u hu
          · rw [List.mem_singleton.mp hu]; exact rdW_lt e (dl 1)
        · have := o2.1; simp; omega
        · have := o2.1; simp; omega
    · cases h
  split at h
  · unfold lMaker at h
    split at h
    · rename_i n hh bs ms hl
      obtain ⟨o1, o2⟩ := hr.2 _ (List.mem_of_getLast? hl)
      split at h
      · cases h
        have q1 := o2.1
        have q2 := o2.2.1
        refine put _ ⟨o1.1, o1.2.1, o1.2.2.1, fun l hl => ?_, o1.2.2.2.2.1, by simp; omega, fun l hl => ?_⟩ ⟨by omega, by simp; omega, fun l hl => ?_⟩ _ hl
        · rcases List.mem_append.mp hl with hl | hl
          · exact o1.2.2.2.1 l hl
          · rw [List.mem_singleton.mp hl]; simp
        · rcases List.mem_append.mp hl with hl | hl
          · exact o1.2.2.2.2.2.2 l hl
          · rw [List.mem_singleton.mp hl]; simp
        · rcases List.mem_append.mp hl with hl | hl
          · exact Nat.le_succ_of_le (o2.2.2 l hl)
          · rw [List.mem_singleton.mp hl]; simp
      · cases h
    · cases h
  split at h
  · unfold lArg at h
    split at h
    · rename_i n hh bs ms hl
      obtain ⟨o1, o2⟩ := hr.2 _ (List.mem_of_getLast? hl)
      split at h
      · rename_i la hla
        have hm := List.mem_of_getLast? hla
        cases e : rdW (ws.drop 1) (bs.length + la.length) with
        | none => rw [e] at h; cases h
        | some t =>
          rw [e] at h
          cases h
          have q1 := o2.1
          have q2 := o2.2.1
          have q3 := o2.2.2 la hm
          have hne : ms ≠ [] := by rintro rfl; cases hla
          have q4 := List.length_pos_iff.mpr hne
          refine put _ ⟨o1.1, o1.2.1, o1.2.2.1, fun l hl => ?_, o1.2.2.2.2.1, by simp; omega, fun l hl => ?_⟩ ⟨by omega, by simp; omega, fun l hl => ?_⟩ _ hl
          · rcases List.mem_append.mp hl with hl | hl
            · exact o1.2.2.2.1 l (List.dropLast_subset _ hl)
            · rw [List.mem_singleton.mp hl]
              intro u hu
              rcases List.mem_append.mp hu with hu | hu
              · exact o1.2.2.2.1 la hm u hu
              · rw [List.mem_singleton.mp hu]; exact rdW_lt e (dl 1)
          · rcases List.mem_append.mp hl with hl | hl
            · exact o1.2.2.2.2.2.2 l (List.dropLast_subset _ hl)
            · rw [List.mem_singleton.mp hl]; simp; omega
          · rcases List.mem_append.mp hl with hl | hl
            · exact Nat.le_succ_of_le (o2.2.2 l (List.dropLast_subset _ hl))
            · rw [List.mem_singleton.mp hl]; simp; omega
      · cases h
    · cases h
  split at h
  · unfold lMean at h
    split at h
    · rename_i hh
      cases e : rdW ((ws.take (ws.idxOf wEq)).drop 3) 0 with
      | none => rw [e] at h; cases h
      | some a =>
        rw [e, Option.bind_some] at h
        cases e2 : rdW (ws.drop (ws.idxOf wEq + 1)) 0 with
        | none => rw [e2] at h; cases h
        | some b =>
          rw [e2] at h
          cases h
          exact app _ ⟨hh.1, rdW_lt e (Nat.le_trans (cost_drop_le (ws.take (ws.idxOf wEq)) 0 3 (Nat.zero_le _)) (Nat.le_trans (cost_take_le _ _) hc)), rdW_lt e2 (dl _)⟩ trivial
    · cases h
  split at h
  · unfold lHold at h
    split at h
    · rename_i hh
      cases e : rdW (ws.drop 3) 0 with
      | none => rw [e] at h; cases h
      | some a =>
        rw [e] at h
        cases h
        exact app _ ⟨hh.1, rdW_lt e (dl _)⟩ trivial
    · cases h
  · cases h
end K83
namespace K83
open PySem PySem.Spec PyProof.Rows L2
open C8 (Cal pe_c CalAt)
/-! ### a text read -/
def linesOf (t : List Nat) : List Wd := if t = [] then [] else TL.spl [10] 0 [] t
inductive Got where
  | line (k : Nat)
  | rows (rows : List Row)
def linesF (k : Nat) (rows : List Row) : List Wd → Got
  | [] => .rows rows
  | l :: ls => match lineF (toks l) rows with
    | none => .line k
    | some rows' => linesF (k + 1) rows' ls
def readF (t : List Nat) : Got := linesF 0 [] (linesOf t)
/-- a text that may be asked -/
structure GoodT (t : List Nat) : Prop where
  len : t.length ≤ 4000
  many : (linesOf t).length ≤ 100
  line : ∀ l ∈ linesOf t, l.length ≤ 4000 ∧ cost 0 (toks l) ≤ maxHt ∧ cost 3 (toks l) < mostCost
theorem GoodT.ws {t : List Nat} (h : GoodT t) {l : Wd} (hl : l ∈ linesOf t) : WsOk (toks l) := by
  obtain ⟨h1, h2, h3⟩ := h.line l hl
  refine ⟨Nat.le_trans (len_cost _) (Nat.le_trans (Nat.le_of_lt h3) (by decide)), fun w hw => ?_, h3⟩
  exact Nat.le_trans (toks_mem hw) h1
section
variable {P : Program} {w : World} {K : PySem.W.Frag} {mg : Str → Option Value} {base : Heap}
/-- what comes of a text -/
def GotQ (K : PySem.W.Frag) (H : Hp) (Q : VK) (E : XK) : Got → Prop
  | .line k => ∀ H2, Same H H2 → BadX K H2 "NoLine" "found" (.int (k : Nat)) E
  | .rows rows => (chk rows = .fine → ∀ x H2, Same H H2 → IsG K H2 x (rowsD rows) → Q (.ref x) H2) ∧ ∀ H2 a, Same H H2 → Dt K H2 (.ref a) (.list (rowsD rows)) → RaiseC K H2 (.ref a) E (chk rows)
def spRead (K : PySem.W.Frag) : Sp := fun vs H Q E => ∃ o : V, vs = [o] ∧
  ((∃ t, o = .str (S t) ∧ GoodT t ∧ GotQ K H Q E (readF t)) ∨ ((∃ ty, TyX K H o ty ∧ PySem.W.kitOne K ty (.type "str") = some false) ∧ BadX K H "NoText" "found" o E))
abbrev N_read_ground : List Str := ["text", "rows", "number", "line", "good"]
abbrev P_read_ground : List Str := ["text"]
theorem sc_read_ground : FnScope N_read_ground P_read_ground (defScope s_read_ground) := ⟨rfl, rfl, rfl, by decide +kernel, rfl, by decide +kernel, by decide +kernel⟩
theorem exm_of {x y : Str} {b : Bool} (h : exmB K x y b = true) : PySem.W.exmOne K (.ref (He.ga K x)) (.ref (He.ga K y)) = some b := of_decide_eq_true h
theorem c_read_ground (T : Tx w K mg) : CalR P w K mg base 228 "read_ground" (spRead K) := by
  obtain ⟨fd, F⟩ := T.d_read_ground
  have X := fx_of T
  have c_words_of := c_words_of (P := P) (base := base) T
  have m_taken := m_taken (P := P) (base := base) T
  refine calR_of F (F.ok sc_read_ground (fun vs H Q E h => by obtain ⟨_, rfl, _⟩ := h; rfl) (fun cdv A outer s H vs Q E hr h => ⟨_, (pss_cons (ps_if (pt_not (pt_val (xIs (K := K) T.n_isinstance T.n_str b_str (pv 0)))) (pss_one (ps_bad rfl (takes_of rfl rfl rfl rfl) (ini_T T) X.eT hr (by decide) rfl T.g_NoText (pv 0))) pss_nil)
    (pss_cons (ps_set (i := 1) sc_read_ground.nd rfl (Or.inl rfl) (pe_mk0 (k_Rows T) hr (by decide) rfl))
    (pss_cons (ps_for (passes_of rfl) rfl (pi_enum (by rfl) T.n_enumerate (pa_cons (pe_ifExp (pt_cmpR op_ne (pv 0) pe_str (nomark _)) (pe_m1 PySem.F.slot_str_split PySem.F.type_str_split mt_spl (pv 0) pe_str) (pe_lst pa_nil)) pa_nil)) (pg_tup (n := 2) (by rfl) (pgs_cons (pg_name (i := 2) sc_read_ground.nd rfl (Or.inl rfl)) (pgs_cons (pg_name (i := 3) sc_read_ground.nd rfl (Or.inl rfl)) pgs_nil)))
      (pss_cons (ps_try_only rfl rfl (c := .ref (He.ga K "NoSign")) ⟨rfl, rfl, .inl T.g_NoSign⟩ (takes_of rfl rfl rfl rfl)
          (fun W pn xe tk _ => pss_one (ps_set (i := 4) sc_read_ground.nd rfl (Or.inl rfl) (pe_mtr m_taken hr (by decide) tk (pv 1) (pa_cons (pe_c c_words_of hr (by decide) rfl (pa_cons (pv 3) pa_nil)) pa_nil))))
          (fun a oe cls d pn hz hf => pss_one (ps_set (i := 4) sc_read_ground.nd rfl (Or.inl rfl) pe_bl)))
    (pss_one (ps_if (pt_not (pt_val (pv 4))) (pss_one (ps_bad rfl (takes_of rfl rfl rfl rfl) (ini_L T) X.eL hr (by decide) rfl T.g_NoLine (pv 2))) pss_nil))))
    (pss_one (ps_ret (pe_mkr (k_Ground T) hr (by decide) rfl (takes_of rfl rfl rfl rfl) (pa_cons (C8.pe_mt0 (m_told T) hr (by decide) (pv 1)) pa_nil))))))), ?_⟩)) T.g_read_ground
    fun _ _ _ _ _ _ us hl => match us, hl with | [_], _ => rfl
  obtain ⟨o, rfl, ⟨t, rfl, hg, hq⟩ | ⟨⟨ty, hty, hk⟩, hq⟩⟩ := h
  · have ht : ∀ {H'}, Dt K H' (.str (S t)) (wD t) := .str _
    refine rd_if (b := false) ((est_not (est_val (es_is (es_var rfl ht)))).eq (by rfl)) (fun _ _ hb => by cases hb) (fun H2 e2 _ => ?_)
    refine fun x dx hx hdx hne => ⟨x, dx, H2, rfl, upd_same, hx, same_own (same_new hdx _) hx _, fun l H3 e3 hl hR => ⟨rfl, ?_⟩⟩
    have hR : IsR K H3 x l [] := hR
    have e23 := e2.trans e3
    have hnl : (linesOf t).length ≤ 400 := Nat.le_trans hg.many (by decide)
    refine Es.at (K := K) (d := .list (wsD (linesOf t))) (es_if (c := !decide (t = [])) (est_op (es_op od_neW (es_var (i := 0) rfl ht) (es_w []))) (fun hc => (es_m1 (md_spl (by have := hg.len; omega) (by decide)) (es_var (i := 0) rfl ht) (es_w [10])).eq ?_) (fun hc => (es_lst esa_nil).eq ?_)) fun v H4 e4 hv => ?_
    · unfold linesOf
      rw [if_neg (by simpa using hc)]
    · unfold linesOf
      rw [if_pos (by simpa using hc)]
      rfl
    cases hv with
    | @lst p xs _ hp hA =>
    have hxs := Dt.ws_eq hA
    subst hxs
    have hxn : H x = none := e2.free hx
    have hln : H l = none := e2.free hl
    obtain ⟨dx4, xs4, hR3⟩ := hR
    have hRx := hR3.same e4
    have hpx : p ≠ x := fun z => by have := hRx.ins; rw [← z, hp] at this; cases this
    have hpl : linesOf t ≠ [] → p ≠ l := fun hne z => by
      have h1 := hRx.lst
      rw [← z, hp] at h1
      have h2 := hRx.dat.len
      rw [← HO.lst.inj (Option.some.inj h1)] at h2
      simp [rowsD] at h2
      exact hne h2
    refine ⟨p, _, rfl, SqL.of hp, for_it (walk_enum (K := K) (a := p) (xs := (linesOf t).map wV)) (fun i σ H' => ∃ rows z1 z2 z3, σ = [some (.str (S t)), some (.ref x), z1, z2, z3] ∧ Same H H' ∧ IsR K H' x l rows ∧ RowsOk i rows ∧ readF t = linesF i rows ((linesOf t).drop i) ∧ H' p = some (.lst ((linesOf t).map wV)))
      ⟨[], none, none, none, rfl, e23.trans e4, ⟨dx4, xs4, hRx⟩, ⟨Nat.le_refl _, by simp⟩, rfl, hp⟩ (fun i σ H' _ g => ?_) (fun i y σ H5 H6 hi g hy => ?_) (fun σ H' g => ?_)⟩
    · obtain ⟨rows, z1, z2, z3, _, _, _, _, _, g⟩ := g
      exact SqL.of g
    · obtain ⟨rows, z1, z2, z3, rfl, g1, g2, g3, g4, g5⟩ := g
      obtain ⟨Tt, ya, yb, rfl, hT, rfl, hya, hyb⟩ := hy
      cases hya
      have hi' : i < (linesOf t).length := by simpa using hi
      have hyb : ((linesOf t).map wV)[i]? = some yb := hyb
      rw [List.getElem?_map, List.getElem?_eq_getElem hi'] at hyb
      cases hyb
      generalize hline : (linesOf t)[i] = line at *
      have hm : line ∈ linesOf t := by rw [← hline]; exact List.getElem_mem hi'
      have edrop : (linesOf t).drop i = line :: (linesOf t).drop (i + 1) := by rw [List.drop_eq_getElem_cons hi', hline]
      have e6 : Same H5 (upd H5 Tt (.tup [.int (i : Nat), wV line])) := same_new hT _
      refine ⟨_, _, rfl, SqT.of upd_same, rfl, _, _, rfl, _, _, rfl, rfl, ?_⟩
      obtain ⟨dx5, xs5, hR5⟩ := g2
      have hR6 := hR5.same e6
      refine ⟨_, rfl, x, dx5, _, rfl, hR6.ins, rfl, ?_⟩
      refine (esa_cons (es_c (esa_cons (es_var (K := K) (i := 3) rfl (dt_w line)) esa_nil) ⟨line, rfl, (hg.line line hm).1, rfl⟩) esa_nil).at fun vs H7 e7 hvs => ?_
      obtain ⟨v7, rfl, hv7⟩ := hvs.one_inv
      have hv7' := hv7
      cases hv7 with
      | @lst wl ys _ hwl hwA =>
      have hR7 := hR6.same e7
      have g16 := (g1.trans e6).trans e7
      have hp7 := e7 _ _ (e6 _ _ g5)
      refine ⟨x, l, wl, toks line, rows, i, rfl, ⟨dx5, xs5, hR7⟩, hv7', hg.ws hm, g3, by omega, fun rows' hf H8 m8 r8 => ?_, fun hf => ?_⟩
      · refine ⟨_, rfl, true, rfl, iteF ?_⟩
        refine ⟨rows', _, _, _, rfl, m8.same g16 hxn hln, r8, lineF_ok hf (hg.line line hm).2.1 (by omega) g3, ?_, m8 p _ hpx (hpl (List.ne_nil_of_length_pos (by omega))) hp7⟩
        rw [g4, edrop]
        show (match lineF (toks line) rows with | none => Got.line i | some rows' => linesF (i + 1) rows' _) = _
        rw [hf]
      · have eg : readF t = .line i := by
          rw [g4, edrop]
          show (match lineF (toks line) rows with | none => Got.line i | some rows' => linesF (i + 1) rows' _) = _
          rw [hf]
        rw [eg] at hq
        refine ⟨fun H8 e8 => ⟨_, rfl, false, rfl, iteT ⟨_, rfl, hq H8 (g16.trans e8)⟩⟩, fun v H8 e8 => fun d H9 e9 hd hx9 => ⟨true, exm_of (X.em ("NoSign", "NoSign", true) (by simp [exms])), fun _ a ha => ⟨_, rfl, false, rfl, iteT ⟨_, rfl, hq H9 ((g16.trans e8).trans e9)⟩⟩, fun z => nomatch z⟩⟩
    · obtain ⟨rows, z1, z2, z3, rfl, g1, g2, g3, g4, g5⟩ := g
      have hn : ((linesOf t).map wV).length = (linesOf t).length := by simp
      rw [hn] at g3 g4
      rw [List.drop_of_length_le (Nat.le_refl _)] at g4
      have eg : readF t = .rows rows := g4
      rw [eg] at hq
      obtain ⟨q1, q2⟩ := hq
      obtain ⟨dx5, xs5, hR5⟩ := g2
      refine ⟨_, rfl, x, dx5, _, rfl, hR5.ins, rfl, x, l, rows, rfl, ⟨dx5, xs5, hR5⟩, fun v H7 e7 hv7 => ?_⟩
      have hv7' := hv7
      cases hv7 with
      | @lst rl ys _ hrl hrA =>
      refine fun gx gdx hgx hgdx hne2 => ⟨gx, gdx, .ref rl, rows, H7, rfl, upd_same, hgx, same_own (same_new hgdx _) hgx _, .inr ⟨rl, rfl, hv7'⟩, fun r hr => (g3.2 r hr).1, by have := g3.1; omega, fun hc H8 e8 hG => ⟨rfl, q1 hc gx H8 ((g1.trans e7).trans e8) hG⟩, q2 H7 rl (g1.trans e7) hv7'⟩
  · refine ⟨_, rfl, o, ty, false, rfl, hty, hk, false, rfl, iteT ⟨_, rfl, hq⟩⟩
end
end K83
namespace K83
open PySem PySem.Spec PyProof.Rows L2
open C8 (Cal pe_c CalAt)
section
variable {K : PySem.W.Frag} {σ : L2.St} {H H' : Hp} {l : Addr} {xs : List V} {te : TE} {D : L2.Ends}
theorem words_mo {wv : V} {ws : List Wd} (h : Dt K H wv (.list (wsD ws))) (e : Mo l H H') (n : wv ≠ .ref l) : Dt K H' wv (.list (wsD ws)) := by
  cases h with
  | @lst a xs _ hl hr =>
    have := Dt.ws_eq hr
    subst this
    exact .lst (e a _ (fun z => n (by rw [z])) hl) (dt_ws ws)
theorem es_lread {ta tb : TE} {ws : List Wd} {wide : Nat} {E : XK} (hw : Es K ta σ H (.list (wsD ws))) (hn : Es K tb σ H (.int (wide : Nat))) (hg : GoodW ws) (hwide : wide ≤ 900) :
    Es K (tOp (rIxT K) (tCall (spLRead K) [] E (tCons ta (tCons tb tNil))) (tC (.int 1))) σ H (oT (rdW ws wide)) := fun H1 e1 Q q => hw H1 e1 _ fun wv H2 e2 h2 => hn H2 (e1.trans e2) _ fun nv H3 e3 h3 => by
  cases h3
  exact ⟨wv, ws, wide, rfl, h2.same e3, hg, hwide, fun v d0 H4 e4 h4 => od_ixT (atI_1 (x := d0) (y := oT (rdW ws wide)) (xs := [])) H4 v _ h4 (.int _) Q fun u H5 e5 h5 => q u H5 (((e2.trans e3).trans e4).trans e5) h5⟩
/-- rows.append(e), of a list that lies open -/
theorem rd_appL {i : Nat} {ds : List PyData} {d : PyData} (hs : σ[i]? = some (some (.ref l))) (hL : H l = some (.lst xs)) (hD : DtA K H xs ds) (hf : flatTs ds = true) (hfd : flatT d = true) (hz : xs.length < 100000) (h : Es K te σ H d)
    (q : ∀ H2 v, Mo l H H2 → H2 l = some (.lst (xs ++ [v])) → DtA K H2 (xs ++ [v]) (ds ++ [d]) → D.nx σ H2) : tDrop (tBM K "list" rAppend (tVar i) (tCons te tNil)) D σ H := rd_app hs hL hz h fun v H2 e2 hv hl2 => by
  have tk : TK K H2 _ := (Mo.upd (b := l) (o := .lst (xs ++ [v]))).tk hl2
  exact q _ v ((Mo.of e2).trans Mo.upd) upd_same (((hD.same e2).tk tk hf).app (.one (hv.tk tk hfd)))
/-- rows[-1] = e -/
theorem rd_putL {i : Nat} {ds : List PyData} {d0 d : PyData} (hs : σ[i]? = some (some (.ref l))) (hL : H l = some (.lst xs)) (hD : DtA K H xs ds) (hf : flatTs ds = true) (hfd : flatT d = true) (hl : ds.getLast? = some d0) (h : Es K te σ H d)
    (q : ∀ H2 xs', Mo l H H2 → H2 l = some (.lst xs') → DtA K H2 xs' (ds.dropLast ++ [d]) → D.nx σ H2) : tAsg te (gSub (tVar i) (tUn (rU fun i => .int (-i)) (tC (.int 1))) rSetL) D σ H := h.at fun v H2 e2 hv => by
  have hl2 := e2 _ _ hL
  have hne : ds ≠ [] := by rintro rfl; cases hl
  have hpos : 0 < xs.length := by rw [hD.len]; exact List.length_pos_iff.mpr hne
  have tk : TK K H2 (upd H2 l (.lst (xs.set (xs.length - 1) v))) := (Mo.upd (b := l)).tk hl2
  refine ⟨_, hs, 1, rfl, l, xs, -1, xs.length - 1, rfl, rfl, hl2, ixN_m1 hpos, ?_⟩
  refine q _ _ ((Mo.of e2).trans Mo.upd) upd_same ?_
  have := (((hD.same e2).tk tk hf).set (hv.tk tk hfd) (xs.length - 1))
  rw [hD.len] at this
  have e : ds.set (ds.length - 1) d = ds.dropLast ++ [d] := by
    conv => lhs; rw [show ds = ds.dropLast ++ [ds.getLast hne] from (List.dropLast_concat_getLast hne).symm]
    rw [List.set_append_right _ _ (by simp)]
    simp
  rw [e] at this
  rw [hD.len]
  exact this
theorem flat_oT (o : Option T) : flatT (oT o) = true := by cases o with | none => rfl | some t => exact flat_term t
theorem flatTs_app : ∀ {a b : List PyData}, flatTs (a ++ b) = (flatTs a && flatTs b)
  | [], b => by simp [flatTs]
  | x :: a, b => by simp [flatTs, flatTs_app (a := a) (b := b), Bool.and_assoc]
end
theorem GoodW.drop {ws : List Wd} (h : GoodW ws) (k : Nat) : GoodW (ws.drop k) := ⟨by rw [List.length_drop]; have := h.1; omega, fun w hw => h.2 w (List.mem_of_mem_drop hw)⟩
theorem GoodW.take {ws : List Wd} (h : GoodW ws) (k : Nat) : GoodW (ws.take k) := ⟨by rw [List.length_take]; have := h.1; omega, fun w hw => h.2 w (List.mem_of_mem_take hw)⟩
theorem words_ne {K : PySem.W.Frag} {H : Hp} {wv : V} {l : Addr} {ws : List Wd} {xs : List V} {rows : List Row} (h : Dt K H wv (.list (wsD ws))) (hne : ws ≠ []) (hL : H l = some (.lst xs)) (hD : DtA K H xs (rowsD rows)) : wv ≠ .ref l := fun e => by
  subst e
  cases h with
  | lst hl hr =>
    rw [hL] at hl
    cases hl
    cases ws with
    | nil => exact hne rfl
    | cons u r =>
      cases rows with
      | nil => cases hD; cases hr
      | cons r0 rs =>
        cases hr with
        | cons h1 _ =>
          cases hD with
          | cons h2 _ =>
            cases h1
            cases r0 <;> cases h2
/-- what the law's lines promise -/
def spLL (K : PySem.W.Frag) (ok : List Wd → Prop) : Sp := fun vs H Q _ => ∃ (wv : V) (l : Addr) (ws : List Wd) (rows : List Row) (xs : List V) (j : Nat), vs = [wv, .ref l] ∧ ok ws ∧ Dt K H wv (.list (wsD ws)) ∧ GoodW ws ∧ RowsOk j rows ∧ j ≤ 450 ∧ H l = some (.lst xs) ∧ DtA K H xs (rowsD rows) ∧
  (∀ rows', lineF ws rows = some rows' → ∀ H2 xs', Mo l H H2 → H2 l = some (.lst xs') → DtA K H2 xs' (rowsD rows') → Q (.bl true) H2) ∧ (lineF ws rows = none → ∀ H2, Mo l H H2 → Q (.bl false) H2)
theorem spLL_len {K : PySem.W.Frag} {ok : List Wd → Prop} : ∀ vs H Q E, spLL K ok vs H Q E → vs.length = 2 := fun vs H Q E h => by
  obtain ⟨_, _, _, _, _, _, rfl, _⟩ := h
  rfl
def okTL (ws : List Wd) : Prop := hd ws = wThing ∨ hd ws = wBound ∨ hd ws = wMaker ∨ hd ws = wArg
theorem hgt_in (w : Wd) : ([[48], [49], [50], [51], [52], [53]] : List Wd).contains w = (hgt w).isSome := by
  cases h : hgt w with
  | some n =>
    obtain ⟨c, rfl, h1, h2, rfl⟩ := hgt_one h
    simp
    omega
  | none =>
    simp only [Option.isSome_none, List.contains_eq_mem, decide_eq_false_iff_not]
    intro hm
    simp only [List.mem_cons, List.not_mem_nil, or_false] at hm
    rcases hm with rfl | rfl | rfl | rfl | rfl | rfl <;> simp [hgt] at h
theorem od_neB {K : PySem.W.Frag} {a b : Bool} : OpD K rNe (.bool a) (.bool b) (.bool (!decide (a = b))) := fun H x y hx hy Q q => by
  cases hx
  cases hy
  refine ⟨rfl, ?_⟩
  rw [show decide (V.bl a = V.bl b) = decide (a = b) by simp]
  exact q _ _ (Same.refl H) (.bl _)
theorem lay_row {r : Row} {m : Nat} (h : r.ok m) : PyData.canLay0 r.data = true := by
  have wl : ∀ w : Wd, (∀ c ∈ w, c < 0x110000) → PyData.canLay0 (wD w) = true := fun w => lay_w
  cases r with
  | thing n hh bs ms =>
    have h1 := lay_ms h
    have h2 : PyData.canLay0 (tsD bs) = true := lay_terms bs fun t ht => (h.2.2.1 t ht).1
    simp only [Row.data, PyData.canLay0, PyData.canLayAll0, lay_name h.1, h2, wl wThing (by decide)]
    simp only [PyData.canLay0] at h1
    rw [h1]
    rfl
  | mean n a b =>
    simp only [Row.data, PyData.canLay0, PyData.canLayAll0, lay_name h.1, lay_term a h.2.1.1, lay_term b h.2.2.1, wl wMean (by decide)]
    rfl
  | hold n t =>
    simp only [Row.data, PyData.canLay0, PyData.canLayAll0, lay_name h.1, lay_term t h.2.1, wl wHold (by decide)]
    rfl
theorem lay_rows {rows : List Row} {j : Nat} (h : RowsOk j rows) : PyData.canLay0 (.list (rowsD rows)) = true := by
  show PyData.canLayAll0 _ = true
  refine lay_all fun d hd => ?_
  obtain ⟨r, hr, rfl⟩ := List.mem_map.mp hd
  exact lay_row (h.2 r hr).1
section
variable {P : Program} {w : World} {K : PySem.W.Frag} {mg : Str → Option Value} {base : Heap}
abbrev N_law_thing_line : List Str := ["words", "rows", "row", "last", "term"]
abbrev P_law_thing_line : List Str := ["words", "rows"]
theorem sc_law_thing_line : FnScope N_law_thing_line P_law_thing_line (defScope s_law_thing_line) := ⟨rfl, rfl, rfl, by decide +kernel, rfl, by decide +kernel, by decide +kernel⟩
theorem c_law_thing_line (T : Tx w K mg) : Cal P w K mg base 5 "_law_thing_line" (spLL K okTL) [] := by
  obtain ⟨fd, F⟩ := T.d_law_thing_line
  have c_law_is_name := c_law_is_name (P := P) (base := base) T
  have c_law_read := c_law_read (P := P) (base := base) T
  refine cal_of F (F.ok sc_law_thing_line spLL_len (fun cdv A outer s H vs Q E hr h => ⟨_, PSs.nox (pss_cons (ps_if (pt_cmpR op_eq (pe_ix (ix_listK (K := K)) (pv 0) pe_int (fun _ _ => rfl)) pe_str (nomark _)) (pss_cons (ps_if (PW.pt (pw_or (pt_cmpR op_ne (pe_callB (call_lenK (K := K)) rfl T.n_len PySem.boot_len (pa_cons (pv 0) pa_nil)) pe_int (nomark _)) (pw_or (pt_not (pt_val (pe_c c_law_is_name hr (by decide) rfl (pa_cons (pe_ix (ix_listK (K := K)) (pv 0) pe_int (fun _ _ => rfl)) pa_nil)))) (pw_or1 (pt_cmpR (op_notInK (K := K)) (pe_ix (ix_listK (K := K)) (pv 0) pe_int (fun _ _ => rfl)) (pe_lst (pa_cons pe_str (pa_cons pe_str (pa_cons pe_str (pa_cons pe_str (pa_cons pe_str (pa_cons pe_str pa_nil))))))) (by rfl)))))) (pss_one (ps_ret pe_bl)) pss_nil)
    (pss_cons (ps_expr (pe_bm PySem.F.plainAttrs_list PySem.F.slot_list_append PySem.F.type_list_append mt_append (pv 1) (pa_cons (pe_tup (pa_cons pe_str (pa_cons (pe_ix (ix_listK (K := K)) (pv 0) pe_int (fun _ _ => rfl)) (pa_cons (pe_callTy call_intS rfl T.n_int b_int (pa_cons (pe_ix (ix_listK (K := K)) (pv 0) pe_int (fun _ _ => rfl)) pa_nil)) (pa_cons (pe_tup pa_nil) (pa_cons (pe_tup pa_nil) pa_nil)))))) pa_nil)))
    (pss_one (ps_ret pe_bl)))) pss_nil)
    (pss_cons (ps_if (PW.pt (pw_or (pt_cmpR (op_eqEL (K := K) hr.units) (pv 1) (pe_lst pa_nil) (nomark _)) (pw_or1 (pt_cmpR op_ne (pe_ix (ix_tupK (K := K)) (pe_ix (ix_listK (K := K)) (pv 1) (pe_un un_neg pe_int) (fun _ _ => rfl)) pe_int (fun _ _ => rfl)) pe_str (nomark _))))) (pss_one (ps_ret pe_bl)) pss_nil)
    (pss_cons (ps_set (i := 2) sc_law_thing_line.nd rfl (Or.inl rfl) (pe_ix (ix_listK (K := K)) (pv 1) (pe_un un_neg pe_int) (fun _ _ => rfl)))
    (pss_cons (ps_if (pt_cmpR op_eq (pe_ix (ix_listK (K := K)) (pv 0) pe_int (fun _ _ => rfl)) pe_str (nomark _)) (pss_cons (ps_asg (pe_op (op_catK (K := K)) (pe_slice (sl_tupK (K := K)) (pv 2) po_none (po_some pe_int)) (pe_tup (pa_cons (pe_op (op_catK (K := K)) (pe_ix (ix_tupK (K := K)) (pv 2) pe_int (fun _ _ => rfl)) (pe_tup (pa_cons (pe_tup pa_nil) pa_nil))) pa_nil))) (pg_sub (pv 1) (pe_un un_neg pe_int) set_list))
    (pss_one (ps_ret (pe_cmpR op_eq (pe_callB (call_lenK (K := K)) rfl T.n_len PySem.boot_len (pa_cons (pv 0) pa_nil)) pe_int (nomark _))))) pss_nil)
    (pss_cons (ps_if (pt_cmpR op_ne (pe_cmpR op_eq (pe_ix (ix_listK (K := K)) (pv 0) pe_int (fun _ _ => rfl)) pe_str (nomark _)) (pe_cmpR (op_eqE (K := K) hr.units) (pe_ix (ix_tupK (K := K)) (pv 2) pe_int (fun _ _ => rfl)) (pe_tup pa_nil) (nomark _)) (nomark _)) (pss_one (ps_ret pe_bl)) pss_nil)
    (pss_cons (ps_set (i := 3) sc_law_thing_line.nd rfl (Or.inl rfl) (pe_ifExp (pt_cmpR op_eq (pe_ix (ix_listK (K := K)) (pv 0) pe_int (fun _ _ => rfl)) pe_str (nomark _)) (pe_ix (ix_tupK (K := K)) (pe_ix (ix_tupK (K := K)) (pv 2) pe_int (fun _ _ => rfl)) (pe_un un_neg pe_int) (fun _ _ => rfl)) (pe_tup pa_nil)))
    (pss_cons (ps_set (i := 4) sc_law_thing_line.nd rfl (Or.inl rfl) (pe_ix (ix_tupK (K := K)) (pe_c c_law_read hr (by decide) rfl (pa_cons (pe_slice (sl_listK (K := K)) (pv 0) (po_some pe_int) po_none) (pa_cons (pe_op op_add (pe_callB (call_lenK (K := K)) rfl T.n_len PySem.boot_len (pa_cons (pe_ix (ix_tupK (K := K)) (pv 2) pe_int (fun _ _ => rfl)) pa_nil)) (pe_callB (call_lenK (K := K)) rfl T.n_len PySem.boot_len (pa_cons (pv 3) pa_nil))) pa_nil))) pe_int (fun _ _ => rfl)))
    (pss_cons (ps_if (pt_cmpR op_eq (pe_ix (ix_listK (K := K)) (pv 0) pe_int (fun _ _ => rfl)) pe_str (nomark _)) (pss_one (ps_asg (pe_op (op_catK (K := K)) (pe_slice (sl_tupK (K := K)) (pv 2) po_none (po_some pe_int)) (pe_tup (pa_cons (pe_op (op_catK (K := K)) (pe_ix (ix_tupK (K := K)) (pv 2) pe_int (fun _ _ => rfl)) (pe_tup (pa_cons (pv 4) pa_nil))) (pa_cons (pe_tup pa_nil) pa_nil)))) (pg_sub (pv 1) (pe_un un_neg pe_int) set_list))) (pss_one (ps_asg (pe_op (op_catK (K := K)) (pe_slice (sl_tupK (K := K)) (pv 2) po_none (po_some pe_int)) (pe_tup (pa_cons (pe_op (op_catK (K := K)) (pe_slice (sl_tupK (K := K)) (pe_ix (ix_tupK (K := K)) (pv 2) pe_int (fun _ _ => rfl)) po_none (po_some (pe_un un_neg pe_int))) (pe_tup (pa_cons (pe_op (op_catK (K := K)) (pv 3) (pe_tup (pa_cons (pv 4) pa_nil))) pa_nil))) pa_nil))) (pg_sub (pv 1) (pe_un un_neg pe_int) set_list))))
    (pss_one (ps_ret (pe_cmpR op_isNotK (pv 4) pe_non (nomark _)))))))))))), ?_⟩)) T.g_law_thing_line
    fun _ _ _ _ _ _ us hl => match us, hl with | [_, _], _ => rfl
  obtain ⟨wv, l, ws, rows, xs, j, rfl, hok, hwords, hg, hrows, hj, hL, hD, q1, q2⟩ := h
  have hne : hd ws ≠ [] := by rcases hok with h | h | h | h <;> rw [h] <;> decide
  have hlt : 0 < ws.length := lt_of_hd (k := 0) hne
  have hwl : wv ≠ .ref l := words_ne hwords (List.ne_nil_of_length_pos hlt) hL hD
  have h0 : (wsD ws)[0]? = some (wD (hd ws)) := wsD_get (hd_get (k := 0) hlt)
  have hl1 := hg.1
  have hgd := hg.2
  have hrl : rows.length ≤ j := hrows.1
  have xl : xs.length < 100000 := by rw [hD.len]; simp [rowsD]; omega
  have frows := flat_rows rows
  have W0 : ∀ {H'} {z2 z3 z4 : Option V}, Same H H' → Es K (tOp (rIxL K) (tVar 0) (tC (.int 0))) [some wv, some (.ref l), z2, z3, z4] H' (wD (hd ws)) := fun {H' z2 z3 z4} e => es_op (od_ixL (atI_nat (j := 0) h0)) (es_var (i := 0) rfl (hwords.same e)) es_int
  by_cases hth : hd ws = wThing
  · have ef : lineF ws rows = lThing ws rows := if_pos hth
    refine rd_yes (est_op (es_op od_eqW (W0 (Same.refl H)) (es_w wThing))) (decide_eq_true hth) fun H2 e2 => ?_
    have h1 : ws.length = 3 → (wsD ws)[1]? = some (wD (w1 ws)) := fun h => wsD_get (hd_get (by omega))
    have h2 : ws.length = 3 → (wsD ws)[2]? = some (wD (w2 ws)) := fun h => wsD_get (hd_get (by omega))
    obtain ⟨g1, g2, _⟩ := hg.hd 1
    refine rd_if (b := !decide (ws.length = 3) || (!isName (w1 ws) || !(hgt (w2 ws)).isSome)) (est_or ((est_op (es_op od_neI (es_b cb_lenL (esa_cons (es_var (i := 0) rfl (hwords.same e2)) esa_nil)) es_int)).eq (by simp [wsD_len]; omega)) fun hc => (est_or (est_not (est_val (es_c (esa_cons (es_op (od_ixL (atI_nat (j := 1) (h1 (by simpa using hc)))) (es_var (i := 0) rfl (hwords.same e2)) es_int) esa_nil) ⟨_, rfl, g1, g2, rfl⟩))) fun _ => ((est_op (es_op (od_notIn (ws := [[48], [49], [50], [51], [52], [53]])) (es_op (od_ixL (atI_nat (j := 2) (h2 (by simpa using hc)))) (es_var (i := 0) rfl (hwords.same e2)) es_int) (es_lst (esa_cons (es_w [48]) (esa_cons (es_w [49]) (esa_cons (es_w [50]) (esa_cons (es_w [51]) (esa_cons (es_w [52]) (esa_cons (es_w [53]) esa_nil)))))))))).eq (by rw [hgt_in]))) (fun H3 e3 hb => ?_) (fun H3 e3 hb => ?_)
    · refine q2 ?_ H3 (Mo.of (e2.trans e3))
      rw [ef]
      unfold lThing
      by_cases c : ws.length = 3 ∧ isName (w1 ws) = true
      · rw [if_pos c]
        simp [c.1, c.2] at hb
        rw [hb]
        rfl
      · rw [if_neg c]
    · simp only [Bool.or_eq_false_iff, Bool.not_eq_false', decide_eq_true_eq] at hb
      obtain ⟨c1, c2, c3⟩ := hb
      obtain ⟨n, hn⟩ := Option.isSome_iff_exists.mp c3
      obtain ⟨c, hc1, hc2, hc3, hc4⟩ := hgt_one hn
      have e : lineF ws rows = some (rows ++ [.thing (w1 ws) n [] []]) := by
        rw [ef]
        unfold lThing
        rw [if_pos ⟨c1, c2⟩, hn]
        rfl
      have e23 := e2.trans e3
      have hw2 := h2 c1
      rw [hc1] at hw2
      refine rd_appL (i := 1) (d := (Row.thing (w1 ws) n [] []).data) rfl (e23 _ _ hL) (hD.same e23) frows (flat_row _) xl ((es_tup (esa_cons (es_w wThing) (esa_cons (es_op (od_ixL (atI_nat (j := 1) (h1 c1))) (es_var (i := 0) rfl (hwords.same e23)) es_int) (esa_cons (int_one (es_op (od_ixL (atI_nat (j := 2) hw2)) (es_var (i := 0) rfl (hwords.same e23)) es_int) hc2 hc3) (esa_cons (es_tup esa_nil) (esa_cons (es_tup esa_nil) esa_nil)))))).eq (by rw [hc4]; rfl)) fun H4 v m4 h4 d4 => ?_
      exact q1 _ e H4 _ ((Mo.of e23).trans m4) h4 (by rw [rowsD_app]; exact d4)
  refine rd_no (est_op (es_op od_eqW (W0 (Same.refl H)) (es_w wThing))) (decide_eq_false hth) fun H2 e2 => ?_
  have hlast : ∀ {H'} {z2 z3 z4 : Option V}, Same H H' → ∀ {r0 : Row}, rows.getLast? = some r0 → Es K (tOp (rIxL K) (tVar 1) (tUn (rU fun i => .int (-i)) (tC (.int 1)))) [some wv, some (.ref l), z2, z3, z4] H' r0.data := fun {H' z2 z3 z4} e {r0} h => es_op (od_ixL (atI_m1 (rowsD_last h))) (es_var (i := 1) rfl (.lst (e _ _ hL) (hD.same e))) es_neg1
  have nothing : (∀ n hh bs ms, rows.getLast? ≠ some (.thing n hh bs ms)) → lineF ws rows = none := fun hno => by
    have hb : lBound ws rows = none := by unfold lBound; split <;> first | (rename_i h; exact absurd h (hno _ _ _ _)) | rfl
    have hm : lMaker ws rows = none := by unfold lMaker; split <;> first | (rename_i h; exact absurd h (hno _ _ _ _)) | rfl
    have ha : lArg ws rows = none := by unfold lArg; split <;> first | (rename_i h; exact absurd h (hno _ _ _ _)) | rfl
    unfold lineF
    rw [if_neg hth]
    rcases hok with h | h | h | h
    · exact absurd h hth
    · rw [if_pos h]; exact hb
    · rw [if_neg (by rw [h]; decide), if_pos h]; exact hm
    · rw [if_neg (by rw [h]; decide), if_neg (by rw [h]; decide), if_pos h]; exact ha
  have isE : (rowsD rows).isEmpty = rows.isEmpty := by cases rows <;> rfl
  cases hgl : rows.getLast? with
  | none =>
    have hr0 : rows = [] := List.getLast?_eq_none_iff.mp hgl
    refine rd_yes (b := true) ((est_or (a := true) (b := false) ((est_op (es_op (od_eqEL (lay_rows hrows)) (es_var (K := K) (i := 1) rfl (.lst (e2 _ _ hL) (hD.same e2))) (es_lst esa_nil))).eq (by rw [isE, hr0]; rfl)) fun hc => by cases hc).eq rfl) rfl fun H3 e3 => ?_
    exact q2 (nothing fun n hh bs ms => by rw [hgl]; simp) H3 (Mo.of (e2.trans e3))
  | some r0 =>
    obtain ⟨dn, rs, hdr, -, -⟩ := row_data r0
    have hnE : rows.isEmpty = false := by cases rows with | nil => cases hgl | cons a b => rfl
    have tst : EsT (tOr (tTest (tOp (rEqEL K) (tVar 1) (tLst tNil))) (tTest (tOp rNe (tOp (rIxT K) (tOp (rIxL K) (tVar 1) (tUn (rU fun i => .int (-i)) (tC (.int 1)))) (tC (.int 0))) (tC (.str "thing"))))) [some wv, some (.ref l), none, none, none] H2 (false || !decide (headW r0 = wThing)) :=
      est_or ((est_op (es_op (od_eqEL (lay_rows hrows)) (es_var (K := K) (i := 1) rfl (.lst (e2 _ _ hL) (hD.same e2))) (es_lst esa_nil))).eq (by rw [isE, hnE])) fun _ => est_op (es_op od_neW (es_op (od_ixT (atI_0 (x := wD (headW r0)))) ((hlast e2 hgl).eq hdr) es_int) (es_w wThing))
    refine rd_if tst (fun H3 e3 hb => ?_) (fun H3 e3 hb => ?_)
    · refine q2 (nothing fun n hh bs ms e => ?_) H3 (Mo.of (e2.trans e3))
      rw [hgl] at e
      cases e
      cases hb
    obtain ⟨n, hh, bs, ms, rfl⟩ : ∃ n hh bs ms, r0 = .thing n hh bs ms := by
      cases r0 with
      | thing n hh bs ms => exact ⟨n, hh, bs, ms, rfl⟩
      | mean => exact absurd (show (false || !decide (wMean = wThing)) = false from hb) (by decide)
      | hold => exact absurd (show (false || !decide (wHold = wThing)) = false from hb) (by decide)
    have e23 := e2.trans e3
    obtain ⟨ro, rw_⟩ := wide_ok hrows hgl
    have hw1 : bs.length ≤ j := rw_.1
    have hw2 : ms.length ≤ j := rw_.2.1
    have fdrop : flatTs (rowsD rows) = true := frows
    have dl : (rowsD rows).dropLast = rowsD rows.dropLast := by unfold rowsD; rw [List.map_dropLast]
    refine rd_set (d := .tuple [wD wThing, wD n, .int hh, tsD bs, .tuple (ms.map tsD)]) (hlast e23 hgl) fun vr H4 e4 hrow => ?_
    have e24 := e23.trans e4
    have hrd : ∀ r : Row, (rowsD rows).dropLast ++ [r.data] = rowsD (rows.dropLast ++ [r]) := fun r => by rw [rowsD_app, dl]
    by_cases hmk : hd ws = wMaker
    · have ef : lineF ws rows = if ws.length = 1 then some (rows.dropLast ++ [.thing n hh bs (ms ++ [[]])]) else none := by
        unfold lineF
        rw [if_neg hth, if_neg (by rw [hmk]; decide), if_pos hmk]
        unfold lMaker
        rw [hgl]
      refine rd_yes (est_op (es_op od_eqW (W0 e24) (es_w wMaker))) (decide_eq_true hmk) fun H5 e5 => ?_
      have hrow5 := hrow.same e5
      have e25 := e24.trans e5
      refine rd_putL (i := 1) (d := (Row.thing n hh bs (ms ++ [[]])).data) rfl (e25 _ _ hL) (hD.same e25) frows (flat_row _) (rowsD_last hgl) ((es_op (od_catT (by rw [cut4]; simp)) (es_sl sd_tup (es_var (i := 2) rfl hrow5) eso_no eso_int) (es_tup (esa_cons (es_op (od_catT (by simp; omega)) (es_op (od_ixT atI_4) (es_var (i := 2) rfl hrow5) es_int) (es_tup (esa_cons (es_tup esa_nil) esa_nil))) esa_nil))).eq (by
        rw [cut4]
        show _ = PyData.tuple [wD wThing, wD n, .int hh, tsD bs, .tuple ((ms ++ [[]]).map tsD)]
        rw [List.map_append]
        rfl)) fun H6 xs6 m6 h6 d6 => ?_
      have m06 := (Mo.of (b := l) e25).trans m6
      refine ((es_op od_eqI (es_b cb_lenL (esa_cons (es_var (K := K) (i := 0) rfl (words_mo hwords m06 hwl)) esa_nil)) es_int).eq (show _ = PyData.bool (decide (ws.length = 1)) by rw [wsD_len]; congr 1; apply decide_eq_decide.mpr; omega)).at fun v7 H7 e7 hv7 => ?_
      cases hv7
      by_cases h1 : ws.length = 1
      · rw [decide_eq_true h1]
        rw [if_pos h1] at ef
        exact q1 _ ef H7 xs6 (m06.trans (Mo.of e7)) (e7 _ _ h6) (by rw [← hrd]; exact d6.same e7)
      · rw [decide_eq_false h1]
        rw [if_neg h1] at ef
        exact q2 ef H7 (m06.trans (Mo.of e7))
    refine rd_no (est_op (es_op od_eqW (W0 e24) (es_w wMaker))) (decide_eq_false hmk) fun H5 e5 => ?_
    have hrow := hrow.same e5
    have e25 := e24.trans e5
    have isM : (ms.map tsD).isEmpty = ms.isEmpty := by cases ms <;> rfl
    by_cases hbd : hd ws = wBound
    · have ef : lineF ws rows = lBound ws rows := by
        unfold lineF
        rw [if_neg hth, if_pos hbd]
      refine rd_if (est_op (es_op od_neB (es_op od_eqW (W0 e25) (es_w wBound)) (es_op (od_eqE (lay_ms ro)) (es_op (od_ixT atI_4) (es_var (i := 2) rfl hrow) es_int) (es_tup esa_nil)))) (fun H6 e6 hb => ?_) (fun H6 e6 hb => ?_)
      · refine q2 ?_ H6 (Mo.of (e25.trans e6))
        rw [ef]
        unfold lBound
        rw [hgl]
        cases ms with
        | nil => rw [decide_eq_true hbd] at hb; cases hb
        | cons a b => rfl
      · obtain rfl : ms = [] := by
          cases ms with
          | nil => rfl
          | cons a b => rw [decide_eq_true hbd] at hb; cases hb
        have e : lineF ws rows = (rdW (ws.drop 1) bs.length).map fun t => rows.dropLast ++ [.thing n hh (bs ++ [t]) []] := by
          rw [ef]
          unfold lBound
          rw [hgl]
        have hrow := hrow.same e6
        have e26 := e25.trans e6
        refine rd_set (K := K) (d := .tuple []) (es_if (c := false) ((est_op (es_op od_eqW (W0 e26) (es_w wArg))).eq (by rw [hbd]; decide)) (fun hc => absurd hc (by simp)) (fun _ => es_tup esa_nil)) fun vl H7 e7 hvl => ?_
        have hrow := hrow.same e7
        have e27 := e26.trans e7
        refine rd_set (es_lread (ws := ws.drop 1) (wide := bs.length) ((es_sl sd_list (es_var (i := 0) rfl (hwords.same e27)) eso_int eso_no).eq (congrArg PyData.list ((show cutD (wsD ws) (some 1) none = (wsD ws).drop 1 from cut_from _ 1).trans (wsD_drop ws 1)))) ((es_op od_add (es_b cb_lenT (esa_cons (es_op (od_ixT atI_3) (es_var (i := 2) rfl hrow) es_int) esa_nil)) (es_b cb_lenT (esa_cons (es_var (i := 3) rfl hvl) esa_nil))).eq (by rw [ts_len]; congr 1)) (hg.drop 1) (by omega)) fun vt H8 e8 hvt => ?_
        have hrow := hrow.same e8
        have e28 := e27.trans e8
        refine rd_yes (est_op (es_op od_eqW (W0 e28) (es_w wBound))) (decide_eq_true hbd) fun H9 e9 => ?_
        have hrow := hrow.same e9
        have e29 := e28.trans e9
        have hvt9 := hvt.same e9
        refine rd_putL (i := 1) (d := .tuple [wD wThing, wD n, .int hh, .tuple (bs.map K83.T.data ++ [oT (rdW (ws.drop 1) bs.length)]), .tuple []]) rfl (e29 _ _ hL) (hD.same e29) frows (by
          simp only [flatT, flatTs, flat_w, flatTs_app, flat_terms, flat_oT]
          rfl) (rowsD_last hgl) ((es_op (od_catT (by rw [cut3]; simp)) (es_sl sd_tup (es_var (i := 2) rfl hrow) eso_no eso_int) (es_tup (esa_cons (es_op (od_catT (by simp; omega)) (es_op (od_ixT atI_3) (es_var (i := 2) rfl hrow) es_int) (es_tup (esa_cons (es_var (i := 4) rfl hvt9) esa_nil))) (esa_cons (es_tup esa_nil) esa_nil)))).eq (by rw [cut3]; rfl)) fun H10 xs10 m10 h10 d10 => ?_
        have m0 := (Mo.of (b := l) e29).trans m10
        refine ⟨_, rfl, rfl, ?_⟩
        rw [dt_isNone hvt, oT_none]
        cases ht : rdW (ws.drop 1) bs.length with
        | none =>
          rw [ht] at e
          exact q2 e H10 m0
        | some t =>
          rw [ht] at e d10
          exact q1 _ e H10 xs10 m0 h10 (by
            rw [← hrd]
            have : (Row.thing n hh (bs ++ [t]) []).data = .tuple [wD wThing, wD n, .int hh, .tuple (bs.map K83.T.data ++ [t.data]), .tuple []] := by
              show PyData.tuple [wD wThing, wD n, .int hh, .tuple ((bs ++ [t]).map K83.T.data), .tuple []] = _
              rw [List.map_append]
              rfl
            rw [this]
            exact d10)
    · have harg : hd ws = wArg := by
        rcases hok with h | h | h | h
        · exact absurd h hth
        · exact absurd h hbd
        · exact absurd h hmk
        · exact h
      have ef : lineF ws rows = lArg ws rows := by
        unfold lineF
        rw [if_neg hth, if_neg hbd, if_neg hmk, if_pos harg]
      refine rd_if (est_op (es_op od_neB (es_op od_eqW (W0 e25) (es_w wBound)) (es_op (od_eqE (lay_ms ro)) (es_op (od_ixT atI_4) (es_var (i := 2) rfl hrow) es_int) (es_tup esa_nil)))) (fun H6 e6 hb => ?_) (fun H6 e6 hb => ?_)
      · refine q2 ?_ H6 (Mo.of (e25.trans e6))
        rw [ef]
        unfold lArg
        rw [hgl]
        cases ms with
        | nil => rfl
        | cons a b => rw [decide_eq_false hbd] at hb; cases hb
      · have hmne : ms ≠ [] := by
          rintro rfl
          rw [decide_eq_false hbd] at hb
          cases hb
        obtain ⟨la, hla⟩ : ∃ la, ms.getLast? = some la := ⟨_, List.getLast?_eq_some_getLast hmne⟩
        have hw3 : la.length ≤ j := rw_.2.2 la (List.mem_of_getLast? hla)
        have e : lineF ws rows = (rdW (ws.drop 1) (bs.length + la.length)).map fun t => rows.dropLast ++ [.thing n hh bs (ms.dropLast ++ [la ++ [t]])] := by
          rw [ef]
          unfold lArg
          rw [hgl]
          simp only
          rw [hla]
        have hrow := hrow.same e6
        have e26 := e25.trans e6
        refine rd_set (d := tsD la) (es_if (c := true) ((est_op (es_op od_eqW (W0 e26) (es_w wArg))).eq (decide_eq_true harg)) (fun _ => es_op (od_ixT (atI_m1 (by rw [List.getLast?_map, hla]; rfl))) (es_op (od_ixT atI_4) (es_var (i := 2) rfl hrow) es_int) es_neg1) (fun hc => absurd hc (by simp))) fun vl H7 e7 hvl => ?_
        have hrow := hrow.same e7
        have e27 := e26.trans e7
        refine rd_set (es_lread (ws := ws.drop 1) (wide := bs.length + la.length) ((es_sl sd_list (es_var (i := 0) rfl (hwords.same e27)) eso_int eso_no).eq (congrArg PyData.list ((show cutD (wsD ws) (some 1) none = (wsD ws).drop 1 from cut_from _ 1).trans (wsD_drop ws 1)))) ((es_op od_add (es_b cb_lenT (esa_cons (es_op (od_ixT atI_3) (es_var (i := 2) rfl hrow) es_int) esa_nil)) (es_b cb_lenT (esa_cons (es_var (i := 3) rfl hvl) esa_nil))).eq (by rw [ts_len, ts_len]; rfl)) (hg.drop 1) (by omega)) fun vt H8 e8 hvt => ?_
        have hrow := hrow.same e8
        have e28 := e27.trans e8
        refine rd_no (est_op (es_op od_eqW (W0 e28) (es_w wBound))) (decide_eq_false hbd) fun H9 e9 => ?_
        have hrow := hrow.same e9
        have e29 := e28.trans e9
        have hvt9 := hvt.same e9
        have hvl9 := hvl.same (e8.trans e9)
        have fms : flatTs (ms.dropLast.map tsD) = true := by
          have : ∀ l : List (List K83.T), flatTs (l.map tsD) = true := fun l => by
            induction l with
            | nil => rfl
            | cons a b ih => simp only [List.map_cons, flatTs, ih, Bool.and_true]; exact flat_terms a
          exact this _
        refine rd_putL (i := 1) (d := .tuple [wD wThing, wD n, .int hh, tsD bs, .tuple (ms.dropLast.map tsD ++ [.tuple (la.map K83.T.data ++ [oT (rdW (ws.drop 1) (bs.length + la.length))])])]) rfl (e29 _ _ hL) (hD.same e29) frows (by
          simp only [flatT, flatTs, flat_w, flatTs_app, flat_terms, flat_oT, fms, tsD]
          rfl) (rowsD_last hgl) ((es_op (od_catT (by rw [cut4]; simp)) (es_sl sd_tup (es_var (i := 2) rfl hrow) eso_no eso_int) (es_tup (esa_cons (es_op (od_catT (by rw [cutm1]; simp; omega)) (es_sl sd_tup (es_op (od_ixT atI_4) (es_var (i := 2) rfl hrow) es_int) eso_no (eso_some (K := K) es_neg1)) (es_tup (esa_cons (es_op (od_catT (by simp; omega)) (es_var (i := 3) rfl hvl9) (es_tup (esa_cons (es_var (i := 4) rfl hvt9) esa_nil))) esa_nil))) esa_nil))).eq (by rw [cut4, cutm1, List.map_dropLast]; rfl)) fun H10 xs10 m10 h10 d10 => ?_
        have m0 := (Mo.of (b := l) e29).trans m10
        refine ⟨_, rfl, rfl, ?_⟩
        rw [dt_isNone hvt, oT_none]
        cases ht : rdW (ws.drop 1) (bs.length + la.length) with
        | none =>
          rw [ht] at e
          exact q2 e H10 m0
        | some t =>
          rw [ht] at e d10
          exact q1 _ e H10 xs10 m0 h10 (by
            rw [← hrd]
            have : (Row.thing n hh bs (ms.dropLast ++ [la ++ [t]])).data = .tuple [wD wThing, wD n, .int hh, tsD bs, .tuple (ms.dropLast.map tsD ++ [.tuple (la.map K83.T.data ++ [t.data])])] := by
              show PyData.tuple [wD wThing, wD n, .int hh, tsD bs, .tuple ((ms.dropLast ++ [la ++ [t]]).map tsD)] = _
              rw [List.map_append, show [la ++ [t]].map tsD = [.tuple (la.map K83.T.data ++ [t.data])] by simp [tsD]]
            rw [this]
            exact d10)
end
end K83
namespace K83
open PySem PySem.Spec PyProof.Rows L2
open C8 (Cal pe_c CalAt)
def lineWs : List Wd := [wThing, wBound, wMaker, wArg, wMean, wHold]
section
variable {P : Program} {w : World} {K : PySem.W.Frag} {mg : Str → Option Value} {base : Heap}
abbrev N_law_line : List Str := ["words", "rows", "at"]
abbrev P_law_line : List Str := ["words", "rows"]
theorem sc_law_line : FnScope N_law_line P_law_line (defScope s_law_line) := ⟨rfl, rfl, rfl, by decide +kernel, rfl, by decide +kernel, by decide +kernel⟩
theorem c_law_line (T : Tx w K mg) : Cal P w K mg base 6 "_law_line" (spLL K fun _ => True) [] := by
  obtain ⟨fd, F⟩ := T.d_law_line
  have c_law_is_name := c_law_is_name (P := P) (base := base) T
  have c_law_read := c_law_read (P := P) (base := base) T
  have c_law_thing_line := c_law_thing_line (P := P) (base := base) T
  refine cal_of F (F.ok sc_law_line spLL_len (fun cdv A outer s H vs Q E hr h => ⟨_, PSs.nox (pss_cons (ps_if (PW.pt (pw_or (pt_cmpR (op_eqEL (K := K) hr.units) (pv 0) (pe_lst pa_nil) (nomark _)) (pw_or1 (pt_cmpR (op_notInK (K := K)) (pe_ix (ix_listK (K := K)) (pv 0) pe_int (fun _ _ => rfl)) (pe_lst (pa_cons pe_str (pa_cons pe_str (pa_cons pe_str (pa_cons pe_str (pa_cons pe_str (pa_cons pe_str pa_nil))))))) (by rfl))))) (pss_one (ps_ret pe_bl)) pss_nil)
    (pss_cons (ps_if (pt_cmpR (op_notInK (K := K)) (pe_ix (ix_listK (K := K)) (pv 0) pe_int (fun _ _ => rfl)) (pe_lst (pa_cons pe_str (pa_cons pe_str pa_nil))) (by rfl)) (pss_one (ps_ret (pe_c c_law_thing_line hr (by decide) rfl (pa_cons (pv 0) (pa_cons (pv 1) pa_nil))))) pss_nil)
    (pss_cons (ps_if (PW.pt (pw_or (pt_cmpR op_lt (pe_callB (call_lenK (K := K)) rfl T.n_len PySem.boot_len (pa_cons (pv 0) pa_nil)) pe_int (nomark _)) (pw_or (pt_not (pt_val (pe_c c_law_is_name hr (by decide) rfl (pa_cons (pe_ix (ix_listK (K := K)) (pv 0) pe_int (fun _ _ => rfl)) pa_nil)))) (pw_or1 (pt_cmpR op_ne (pe_ix (ix_listK (K := K)) (pv 0) pe_int (fun _ _ => rfl)) pe_str (nomark _)))))) (pss_one (ps_ret pe_bl)) pss_nil)
    (pss_cons (ps_if (pt_cmpR op_eq (pe_ix (ix_listK (K := K)) (pv 0) pe_int (fun _ _ => rfl)) pe_str (nomark _)) (pss_cons (ps_expr (pe_bm PySem.F.plainAttrs_list PySem.F.slot_list_append PySem.F.type_list_append mt_append (pv 1) (pa_cons (pe_tup (pa_cons pe_str (pa_cons (pe_ix (ix_listK (K := K)) (pv 0) pe_int (fun _ _ => rfl)) (pa_cons (pe_ix (ix_tupK (K := K)) (pe_c c_law_read hr (by decide) rfl (pa_cons (pe_slice (sl_listK (K := K)) (pv 0) (po_some pe_int) po_none) (pa_cons pe_int pa_nil))) pe_int (fun _ _ => rfl)) pa_nil)))) pa_nil)))
    (pss_one (ps_ret (pe_cmpR op_isNotK (pe_ix (ix_tupK (K := K)) (pe_ix (ix_listK (K := K)) (pv 1) (pe_un un_neg pe_int) (fun _ _ => rfl)) pe_int (fun _ _ => rfl)) pe_non (nomark _))))) pss_nil)
    (pss_cons (ps_set (i := 2) sc_law_line.nd rfl (Or.inl rfl) (pe_ifExp (pt_cmpR (op_inK (K := K)) pe_str (pv 0) (by rfl)) (pe_bm PySem.F.plainAttrs_list PySem.F.slot_list_index PySem.F.type_list_index (mt_indexK (K := K)) (pv 0) (pa_cons pe_str pa_nil)) pe_int))
    (pss_cons (ps_expr (pe_bm PySem.F.plainAttrs_list PySem.F.slot_list_append PySem.F.type_list_append mt_append (pv 1) (pa_cons (pe_tup (pa_cons pe_str (pa_cons (pe_ix (ix_listK (K := K)) (pv 0) pe_int (fun _ _ => rfl)) (pa_cons (pe_ix (ix_tupK (K := K)) (pe_c c_law_read hr (by decide) rfl (pa_cons (pe_slice (sl_listK (K := K)) (pv 0) (po_some pe_int) (po_some (pv 2))) (pa_cons pe_int pa_nil))) pe_int (fun _ _ => rfl)) (pa_cons (pe_ix (ix_tupK (K := K)) (pe_c c_law_read hr (by decide) rfl (pa_cons (pe_slice (sl_listK (K := K)) (pv 0) (po_some (pe_op op_add (pv 2) pe_int)) po_none) (pa_cons pe_int pa_nil))) pe_int (fun _ _ => rfl)) pa_nil))))) pa_nil)))
    (pss_one (ps_ret (pe_and (pe_cmpR op_gt (pv 2) pe_int (nomark _)) (pe_and (pe_cmpR op_isNotK (pe_ix (ix_tupK (K := K)) (pe_ix (ix_listK (K := K)) (pv 1) (pe_un un_neg pe_int) (fun _ _ => rfl)) pe_int (fun _ _ => rfl)) pe_non (nomark _)) (pe_one (pe_cmpR op_isNotK (pe_ix (ix_tupK (K := K)) (pe_ix (ix_listK (K := K)) (pv 1) (pe_un un_neg pe_int) (fun _ _ => rfl)) pe_int (fun _ _ => rfl)) pe_non (nomark _))))))))))))), ?_⟩)) T.g_law_line
    fun _ _ _ _ _ _ us hl => match us, hl with | [_, _], _ => rfl
  obtain ⟨wv, l, ws, rows, xs, j, rfl, -, hwords, hg, hrows, hj, hL, hD, q1, q2⟩ := h
  have hl1 := hg.1
  have hrl : rows.length ≤ j := hrows.1
  have xl : xs.length < 100000 := by rw [hD.len]; simp [rowsD]; omega
  have frows := flat_rows rows
  have lws : PyData.canLay0 (.list (wsD ws)) = true := lay_ws ws fun u hu => (hg.2 u hu).2.1
  have isW : (wsD ws).isEmpty = decide (ws = []) := by cases ws <;> simp [wsD]
  have W0 : ∀ {H'} {z2 : Option V}, ws ≠ [] → Same H H' → Es K (tOp (rIxL K) (tVar 0) (tC (.int 0))) [some wv, some (.ref l), z2] H' (wD (hd ws)) := fun {H' z2} hne e => es_op (od_ixL (atI_nat (j := 0) (wsD_get (hd_get (k := 0) (List.length_pos_iff.mpr hne))))) (es_var (i := 0) rfl (hwords.same e)) es_int
  refine rd_if (b := decide (ws = []) || !lineWs.contains (hd ws)) (est_or ((est_op (es_op (od_eqEL lws) (es_var (K := K) (i := 0) rfl hwords) (es_lst esa_nil))).eq isW) fun hc => est_op (es_op (od_notIn (ws := lineWs)) (W0 (by simpa using hc) (Same.refl H)) (es_lst (esa_cons (es_w wThing) (esa_cons (es_w wBound) (esa_cons (es_w wMaker) (esa_cons (es_w wArg) (esa_cons (es_w wMean) (esa_cons (es_w wHold) esa_nil))))))))) (fun H2 e2 hb => ?_) (fun H2 e2 hb => ?_)
  · refine q2 ?_ H2 (Mo.of e2)
    have hno : hd ws ∉ lineWs := by
      rcases Bool.or_eq_true_iff.mp hb with h | h
      · have : ws = [] := by simpa using h
        rw [this]
        decide
      · simpa using h
    have hn : ∀ z ∈ lineWs, hd ws ≠ z := fun z hz e => hno (by rw [e]; exact hz)
    unfold lineF
    rw [if_neg (hn _ (by decide)), if_neg (hn _ (by decide)), if_neg (hn _ (by decide)), if_neg (hn _ (by decide)), if_neg (hn _ (by decide)), if_neg (hn _ (by decide))]
  have hne : ws ≠ [] := by
    rintro rfl
    cases hb
  have hin : hd ws ∈ lineWs := by
    rw [decide_eq_false hne] at hb
    simpa using hb
  refine rd_if (b := !([wMean, wHold] : List Wd).contains (hd ws)) (est_op (es_op (od_notIn (ws := [wMean, wHold])) (W0 hne e2) (es_lst (esa_cons (es_w wMean) (esa_cons (es_w wHold) esa_nil))))) (fun H3 e3 hb2 => ?_) (fun H3 e3 hb2 => ?_)
  · have e23 := e2.trans e3
    have hno : hd ws ∉ ([wMean, wHold] : List Wd) := by simpa using hb2
    refine ⟨_, rfl, _, rfl, wv, l, ws, rows, xs, j, rfl, ?_, hwords.same e23, hg, hrows, hj, e23 _ _ hL, hD.same e23, fun rows' hf H4 xs' m4 h4 d4 => q1 rows' hf H4 xs' ((Mo.of e23).trans m4) h4 d4, fun hf H4 m4 => q2 hf H4 ((Mo.of e23).trans m4)⟩
    simp only [lineWs, List.mem_cons, List.not_mem_nil, or_false] at hin hno
    rcases hin with h | h | h | h | h | h
    · exact .inl h
    · exact .inr (.inl h)
    · exact .inr (.inr (.inl h))
    · exact .inr (.inr (.inr h))
    · exact absurd (.inl h) hno
    · exact absurd (.inr h) hno
  have hin2 : hd ws = wMean ∨ hd ws = wHold := by
    by_cases h : hd ws = wMean
    · exact .inl h
    · exact .inr ((by simpa using hb2 : ¬ hd ws = wMean → hd ws = wHold) h)
  have e23 := e2.trans e3
  obtain ⟨g1, g2, _⟩ := hg.hd 1
  have h1 : 3 ≤ ws.length → (wsD ws)[1]? = some (wD (w1 ws)) := fun h => wsD_get (hd_get (by omega))
  have h2 : 3 ≤ ws.length → (wsD ws)[2]? = some (wD (w2 ws)) := fun h => wsD_get (hd_get (by omega))
  refine rd_if (b := decide (ws.length < 3) || (!isName (w1 ws) || !decide (w2 ws = wCol))) (est_or ((est_op (es_op od_cmp (es_b cb_lenL (esa_cons (es_var (K := K) (i := 0) rfl (hwords.same e23)) esa_nil)) es_int)).eq (by rw [wsD_len]; apply decide_eq_decide.mpr; omega)) fun hc => (est_or (est_not (est_val (es_c (esa_cons (es_op (od_ixL (atI_nat (j := 1) (h1 (by simpa using hc)))) (es_var (i := 0) rfl (hwords.same e23)) es_int) esa_nil) ⟨_, rfl, g1, g2, rfl⟩))) fun _ => est_op (es_op od_neW (es_op (od_ixL (atI_nat (j := 2) (h2 (by simpa using hc)))) (es_var (i := 0) rfl (hwords.same e23)) es_int) (es_w wCol)))) (fun H4 e4 hb3 => ?_) (fun H4 e4 hb3 => ?_)
  · refine q2 ?_ H4 (Mo.of (e23.trans e4))
    have hno : ¬ (isName (w1 ws) = true ∧ w2 ws = wCol) := fun ⟨c1, c2⟩ => by
      rw [c1, decide_eq_true c2] at hb3
      have : ws.length < 3 := by simpa using hb3
      have h9 : w2 ws = [] := hd_out (by omega)
      rw [h9] at c2
      exact absurd c2 (by decide)
    unfold lineF
    rcases hin2 with h | h
    · rw [if_neg (by rw [h]; decide), if_neg (by rw [h]; decide), if_neg (by rw [h]; decide), if_neg (by rw [h]; decide), if_pos h]
      exact if_neg fun c => hno ⟨c.1, c.2.1⟩
    · rw [if_neg (by rw [h]; decide), if_neg (by rw [h]; decide), if_neg (by rw [h]; decide), if_neg (by rw [h]; decide), if_neg (by rw [h]; decide), if_pos h]
      exact if_neg hno
  have hc : 3 ≤ ws.length ∧ isName (w1 ws) = true ∧ w2 ws = wCol := by
    simp only [Bool.or_eq_false_iff, decide_eq_false_iff_not, Bool.not_eq_false', decide_eq_true_eq] at hb3
    exact ⟨by omega, hb3.2.1, hb3.2.2⟩
  obtain ⟨c3, cn, cc⟩ := hc
  have e24 := e23.trans e4
  have flast : ∀ {ds : List PyData} {d : PyData}, (ds ++ [d]).getLast? = some d := fun {ds d} => by simp
  by_cases hh : hd ws = wHold
  · have e : lineF ws rows = (rdW (ws.drop 3) 0).map fun t => rows ++ [.hold (w1 ws) t] := by
      unfold lineF
      rw [if_neg (by rw [hh]; decide), if_neg (by rw [hh]; decide), if_neg (by rw [hh]; decide), if_neg (by rw [hh]; decide), if_neg (by rw [hh]; decide), if_pos hh]
      exact if_pos ⟨cn, cc⟩
    refine rd_yes (est_op (es_op od_eqW (W0 hne e24) (es_w wHold))) (decide_eq_true hh) fun H5 e5 => ?_
    have e25 := e24.trans e5
    refine rd_appL (i := 1) (d := .tuple [wD wHold, wD (w1 ws), oT (rdW (ws.drop 3) 0)]) rfl (e25 _ _ hL) (hD.same e25) frows (by simp [flatT, flatTs, flat_w, flat_oT]) xl (es_tup (esa_cons (es_w wHold) (esa_cons (es_op (od_ixL (atI_nat (j := 1) (h1 c3))) (es_var (i := 0) rfl (hwords.same e25)) es_int) (esa_cons (es_lread (ws := ws.drop 3) (wide := 0) ((es_sl sd_list (es_var (i := 0) rfl (hwords.same e25)) eso_int eso_no).eq (congrArg PyData.list ((show cutD (wsD ws) (some 3) none = (wsD ws).drop 3 from cut_from _ 3).trans (wsD_drop ws 3)))) es_int (hg.drop 3) (by decide)) esa_nil)))) fun H6 v m6 h6 d6 => ?_
    have m06 := (Mo.of (b := l) e25).trans m6
    refine (es_op (K := K) od_notN (es_op (od_ixT atI_2) (es_op (od_ixL (atI_m1 flast)) (es_var (i := 1) rfl (.lst h6 d6)) es_neg1) es_int) es_non).at fun v7 H7 e7 hv7 => ?_
    rw [oT_none] at hv7
    cases hv7
    cases ht : rdW (ws.drop 3) 0 with
    | none =>
      rw [ht] at e
      exact q2 e H7 (m06.trans (Mo.of e7))
    | some t =>
      rw [ht] at e d6
      exact q1 _ e H7 _ (m06.trans (Mo.of e7)) (e7 _ _ h6) (by rw [rowsD_app]; exact d6.same e7)
  have hm : hd ws = wMean := by
    rcases hin2 with h | h
    · exact h
    · exact absurd h hh
  refine rd_no (est_op (es_op od_eqW (W0 hne e24) (es_w wHold))) (decide_eq_false hh) fun H5 e5 => ?_
  have e25 := e24.trans e5
  generalize hat : (if wEq ∈ ws then ws.idxOf wEq else 0) = at_
  have e : lineF ws rows = if wEq ∈ ws then (rdW ((ws.take at_).drop 3) 0).bind fun a => (rdW (ws.drop (at_ + 1)) 0).map fun b => rows ++ [.mean (w1 ws) a b] else none := by
    unfold lineF
    rw [if_neg (by rw [hm]; decide), if_neg (by rw [hm]; decide), if_neg (by rw [hm]; decide), if_neg (by rw [hm]; decide), if_pos hm]
    unfold lMean
    by_cases h : wEq ∈ ws
    · rw [if_pos ⟨cn, cc, h⟩, if_pos h]
      rw [if_pos h] at hat
      rw [hat]
    · rw [if_neg fun c => h c.2.2, if_neg h]
  refine rd_set (K := K) (d := .int (at_ : Nat)) (es_if (c := decide (wEq ∈ ws)) ((est_op (es_op od_in (es_w wEq) (es_var (i := 0) rfl (hwords.same e25)))).eq (by simp)) (fun hc => (es_m (T := "list") (md_indexW (by simpa using hc)) (es_var (i := 0) rfl (hwords.same e25)) (esa_cons (es_w wEq) esa_nil) ty_list).eq (by rw [← hat, if_pos (by simpa using hc)])) (fun hc => es_int.eq (by rw [← hat, if_neg (by simpa using hc)]; rfl))) fun va H6 e6 hva => ?_
  obtain rfl := dt_int hva
  have e26 := e25.trans e6
  refine rd_appL (i := 1) (d := .tuple [wD wMean, wD (w1 ws), oT (rdW ((ws.take at_).drop 3) 0), oT (rdW (ws.drop (at_ + 1)) 0)]) rfl (e26 _ _ hL) (hD.same e26) frows (by simp [flatT, flatTs, flat_w, flat_oT]) xl (es_tup (esa_cons (es_w wMean) (esa_cons (es_op (od_ixL (atI_nat (j := 1) (h1 c3))) (es_var (i := 0) rfl (hwords.same e26)) es_int) (esa_cons (es_lread (ws := (ws.take at_).drop 3) (wide := 0) ((es_sl sd_list (es_var (i := 0) rfl (hwords.same e26)) eso_int (eso_some (K := K) (es_var (i := 2) rfl (.int _)))).eq (congrArg PyData.list ((show cutD (wsD ws) (some ((3 : Nat) : Int)) (some (at_ : Int)) = ((wsD ws).take at_).drop 3 from cut_mid _ 3 at_).trans (by rw [wsD_take, wsD_drop])))) es_int ((hg.take at_).drop 3) (by decide)) (esa_cons (es_lread (ws := ws.drop (at_ + 1)) (wide := 0) ((es_sl sd_list (es_var (i := 0) rfl (hwords.same e26)) (eso_some (K := K) (es_op od_add (es_var (i := 2) rfl (.int _)) es_int)) eso_no).eq (congrArg PyData.list ((show cutD (wsD ws) (some ((at_ + 1 : Nat) : Int)) none = (wsD ws).drop (at_ + 1) from cut_from _ (at_ + 1)).trans (wsD_drop ws (at_ + 1))))) es_int (hg.drop (at_ + 1)) (by decide)) esa_nil))))) fun H7 v m7 h7 d7 => ?_
  have m07 := (Mo.of (b := l) e26).trans m7
  refine Es.at (K := K) (es_and (a := decide ((at_ : Int) > 0)) (b := (rdW ((ws.take at_).drop 3) 0).isSome && (rdW (ws.drop (at_ + 1)) 0).isSome) (es_op od_cmp (es_var (i := 2) rfl (.int _)) es_int) fun _ => es_and ((es_op od_notN (es_op (od_ixT atI_2) (es_op (od_ixL (atI_m1 flast)) (es_var (i := 1) rfl (.lst h7 d7)) es_neg1) es_int) es_non).eq (by rw [oT_none]; cases rdW ((ws.take at_).drop 3) 0 <;> rfl)) fun _ => ((es_op od_notN (es_op (od_ixT atI_3) (es_op (od_ixL (atI_m1 flast)) (es_var (i := 1) rfl (.lst h7 d7)) es_neg1) es_int) es_non).eq (by rw [oT_none]; cases rdW (ws.drop (at_ + 1)) 0 <;> rfl))) fun v8 H8 e8 hv8 => ?_
  cases hv8
  have m08 := m07.trans (Mo.of e8)
  by_cases hE : wEq ∈ ws
  · rw [if_pos hE] at e hat
    have hpos : 0 < at_ := by
      rw [← hat]
      obtain ⟨x, r, rfl⟩ := List.exists_cons_of_ne_nil hne
      have : x ≠ wEq := fun z => by
        have : x = wMean := hm
        rw [z] at this
        exact absurd this (by decide)
      rw [List.idxOf_cons]
      have : (x == wEq) = false := by simpa using this
      rw [this]
      simp
    have hp : decide ((at_ : Int) > 0) = true := decide_eq_true (by omega)
    rw [hp]
    cases ha : rdW ((ws.take at_).drop 3) 0 with
    | none =>
      rw [ha] at e
      exact q2 e H8 m08
    | some a =>
      rw [ha, Option.bind_some] at e
      cases hb : rdW (ws.drop (at_ + 1)) 0 with
      | none =>
        rw [hb] at e
        exact q2 e H8 m08
      | some b =>
        rw [hb] at e
        rw [ha, hb] at d7
        exact q1 _ e H8 _ m08 (e8 _ _ h7) (by rw [rowsD_app]; exact d7.same e8)
  · rw [if_neg hE] at e hat
    have hp : decide ((at_ : Int) > 0) = false := decide_eq_false (by omega)
    rw [hp]
    exact q2 e H8 m08
end
end K83
namespace K83
open PySem PySem.Spec PyProof.Rows L2
open C8 (Cal pe_c CalAt)
def wLine : Wd := [108, 105, 110, 101]
def wGround : Wd := [103, 114, 111, 117, 110, 100]
def wDoubled : Wd := [100, 111, 117, 98, 108, 101, 100]
def wTold : Wd := [116, 111, 108, 100]
/-- what is told of a text -/
def tellC (rows : List Row) : Chk → PyData
  | .fine => .tuple [wD wTold, .list (rowsD rows)]
  | .ground => .tuple [wD wGround, .list (rowsD rows)]
  | .row r => .tuple [wD wRow, r.data]
  | .doubled n => .tuple [wD wDoubled, wD n]
def tell : Got → PyData
  | .line k => .tuple [wD wLine, .int (k : Nat)]
  | .rows rows => tellC rows (chk rows)
theorem Mo.same8 {l : Addr} {H0 H1 H2 : Hp} (m : Mo l H1 H2) (e : Same H0 H1) (n : H0 l = none) : Same H0 H2 := fun a o q => m a o (ne_of_none q n) (e a o q)
theorem at_ifN {sp : Sp} {dvs : List V} {E : XK} {tr : TA} {u1 u2 : TS} {D : L2.Ends} {σ : L2.St} {H : Hp} (h : tr σ H fun vs H1 => sp (vs ++ dvs) H1 (fun v H2 => ∃ b, v = .bl b ∧ (if (!b) = true then u1 D σ H2 else u2 D σ H2)) E) : tIfS (tNot (tB (tCall sp dvs E tr))) u1 u2 D σ H := h
structure GoodT2 (t : List Nat) : Prop where
  g : GoodT t
  w : ∀ l ∈ linesOf t, GoodW (toks l)
theorem est_max {K : PySem.W.Frag} {σ : L2.St} {H : Hp} {te : TE} {ns : List Int} (h : Es K te σ H (.list (ns.map PyData.int))) (hne : 0 < ns.length) :
    EsT (tTest (tOp (rI0 fun i j => .bl (decide (i > j))) (tCB (rMax K) (tCons te tNil)) (tC (.int 4)))) σ H (ns.any fun y => decide (y > 4)) := fun H1 e1 Q q => h H1 e1 _ fun v H2 e2 hv => by
  cases hv with
  | @lst a xs _ hl hr =>
    have hx : ∀ {xs : List V} {ns : List Int}, DtA K H2 xs (ns.map PyData.int) → xs = ns.map V.int := by
      intro xs ns
      induction ns generalizing xs with
      | nil => intro h; cases h; rfl
      | cons a r ih =>
        intro h
        cases h with
        | cons h1 h2 => cases h1; rw [ih h2]; rfl
    have := hx hr
    subst this
    refine ⟨a, ns, rfl, SqL.of hl, hne, fun m hm hmax => ⟨m, 4, rfl, rfl, _, rfl, ?_⟩⟩
    have e : decide (m > 4) = ns.any fun y => decide (y > 4) := by
      rw [Bool.eq_iff_iff]
      simp only [decide_eq_true_eq, List.any_eq_true]
      exact ⟨fun h => ⟨m, hm, h⟩, fun ⟨y, hy, h⟩ => by have := hmax y hy; omega⟩
    rw [e]
    exact q H2 e2
def mostI : Row → List Int
  | .thing _ _ _ ms => (ms.map fun l => (l.length : Int)) ++ [0]
  | _ => [0]
theorem any_most : ∀ ms : List (List T), ((List.map (fun l : List T => (l.length : Int)) ms) ++ [0]).any (fun y => decide (y > 4)) = !(ms.all fun l => decide (l.length ≤ 4))
  | [] => rfl
  | a :: r => by
    have ih := any_most r
    simp only [List.map_cons, List.cons_append, List.any_cons, List.all_cons, Bool.not_and]
    rw [ih]
    congr 1
    rw [Bool.eq_iff_iff]
    simp
    omega
theorem dec_gt (a b : Nat) : decide (a > b) = !decide (a ≤ b) := by
  rw [Bool.eq_iff_iff]
  simp
theorem good_most {n : Wd} {hh : Nat} {bs : List T} {ms : List (List T)} : (decide (bs.length > 3) || (decide (ms.length > 5) || (mostI (.thing n hh bs ms)).any fun y => decide (y > 4))) = !(Row.thing n hh bs ms).good := by
  show (decide (bs.length > 3) || (decide (ms.length > 5) || ((List.map (fun l : List T => (l.length : Int)) ms) ++ [0]).any fun y => decide (y > 4))) = !(decide (bs.length ≤ 3) && (decide (ms.length ≤ 5) && ms.all fun l => decide (l.length ≤ 4)))
  rw [any_most, dec_gt, dec_gt, Bool.not_and, Bool.not_and]
def fstD : PyData → PyData
  | .tuple (_ :: b :: _) => b
  | _ => .none
def lenD : PyData → PyData
  | .tuple ds => .int (ds.length : Nat)
  | _ => .none
def RDue : List PyData → PyData → Prop := fun ds d => ∃ t : Wd, ds = [wD t] ∧ GoodT2 t ∧ d = tell (readF t)
section
variable {P : Program} {w : World} {K : PySem.W.Frag} {mg : Str → Option Value} {base : Heap}
abbrev N_law_due : List Str := ["text", "rows", "number", "line", "k", "row", "most", "other", "maker"]
abbrev P_law_due : List Str := ["text"]
theorem sc_law_due : FnScope N_law_due P_law_due (defScope s_law_due) := ⟨rfl, rfl, rfl, by decide +kernel, rfl, by decide +kernel, by decide +kernel⟩
theorem cr_maxK {X : Cx} {K : PySem.W.Frag} (hc : X.calm = true) (hK : X.K = K := by rfl) : CallR X (.builtin "max") (rMax K) := by
  subst hK
  exact cr_max hc
theorem c_law_due (T : Tx w K mg) : Cal P w K mg base 7 "_law_due" (spD K RDue) [] := by
  obtain ⟨fd, F⟩ := T.d_law_due
  have c_law_line := c_law_line (P := P) (base := base) T
  have c_law_words := c_law_words (P := P) (base := base) T
  refine cal_of F (F.ok sc_law_due (spD_len fun ds d h => by obtain ⟨_, rfl, _⟩ := h; rfl) (fun cdv A outer s H vs Q E hr h => ⟨_, PSs.nox (pss_cons (ps_set (i := 1) sc_law_due.nd rfl (Or.inl rfl) (pe_lst pa_nil))
    (pss_cons (ps_for PassesOwn.never rfl (pi_enum (by rfl) T.n_enumerate (pa_cons (pe_ifExp (pt_cmpR op_ne (pv 0) pe_str (nomark _)) (pe_m1 PySem.F.slot_str_split PySem.F.type_str_split mt_spl (pv 0) pe_str) (pe_lst pa_nil)) pa_nil)) (pg_tup (n := 2) (by rfl) (pgs_cons (pg_name (i := 2) sc_law_due.nd rfl (Or.inl rfl)) (pgs_cons (pg_name (i := 3) sc_law_due.nd rfl (Or.inl rfl)) pgs_nil)))
      (pss_one (ps_if (pt_not (pt_val (pe_c c_law_line hr (by decide) rfl (pa_cons (pe_c c_law_words hr (by decide) rfl (pa_cons (pv 3) pa_nil)) (pa_cons (pv 1) pa_nil))))) (pss_one (ps_ret (pe_tup (pa_cons pe_str (pa_cons (pv 2) pa_nil))))) pss_nil)))
    (pss_cons (ps_if (pt_cmpR op_gt (pe_callB (call_lenK (K := K)) rfl T.n_len PySem.boot_len (pa_cons (pv 1) pa_nil)) pe_int (nomark _)) (pss_one (ps_ret (pe_tup (pa_cons pe_str (pa_cons (pv 1) pa_nil))))) pss_nil)
    (pss_cons (ps_for PassesOwn.never rfl (pi_enum (by rfl) T.n_enumerate (pa_cons (pv 1) pa_nil)) (pg_tup (n := 2) (by rfl) (pgs_cons (pg_name (i := 4) sc_law_due.nd rfl (Or.inl rfl)) (pgs_cons (pg_name (i := 5) sc_law_due.nd rfl (Or.inl rfl)) pgs_nil)))
      (pss_cons (ps_set (i := 6) sc_law_due.nd rfl (Or.inl rfl) (pe_ifExp (pt_cmpR op_eq (pe_ix (ix_tupK (K := K)) (pv 5) pe_int (fun _ _ => rfl)) pe_str (nomark _)) (pe_op op_cat (pe_lc (own := [("maker", 8)]) (g := (gName 8)) (tt := tYes) (by rfl) sc_law_due.nd (pi_tup (pe_ix (ix_tupK (K := K)) (pv 5) pe_int (fun _ _ => rfl))) (blkOk_by (N := N_law_due) (sc := defScope s_law_due) (by decide +kernel)) (fun _ _ _ _ _ => (pg_name (i := 8) sc_law_due.nd rfl (Or.inl rfl))) (fun _ _ _ _ _ => pts_nil) (fun _ _ _ _ _ => (pe_callB (call_lenK (K := K)) rfl T.n_len PySem.boot_len (pa_cons (pv 8) pa_nil)))) (pe_lst (pa_cons pe_int pa_nil))) (pe_lst (pa_cons pe_int pa_nil))))
    (pss_cons (ps_if (PW.pt (pw_and (pt_cmpR op_eq (pe_ix (ix_tupK (K := K)) (pv 5) pe_int (fun _ _ => rfl)) pe_str (nomark _)) (pw_and1 (PW.pt (pw_or (pt_cmpR op_gt (pe_callB (call_lenK (K := K)) rfl T.n_len PySem.boot_len (pa_cons (pe_ix (ix_tupK (K := K)) (pv 5) pe_int (fun _ _ => rfl)) pa_nil)) pe_int (nomark _)) (pw_or (pt_cmpR op_gt (pe_callB (call_lenK (K := K)) rfl T.n_len PySem.boot_len (pa_cons (pe_ix (ix_tupK (K := K)) (pv 5) pe_int (fun _ _ => rfl)) pa_nil)) pe_int (nomark _)) (pw_or1 (pt_cmpR op_gt (pe_callB (cr_maxK (K := K) rfl) rfl T.n_max b_max (pa_cons (pv 6) pa_nil)) pe_int (nomark _))))))))) (pss_one (ps_ret (pe_tup (pa_cons pe_str (pa_cons (pv 5) pa_nil))))) pss_nil)
    (pss_one (ps_if (pt_cmpR (op_inK (K := K)) (pe_ix (ix_tupK (K := K)) (pv 5) pe_int (fun _ _ => rfl)) (pe_lc (own := [("other", 7)]) (g := (gName 7)) (tt := tYes) (by rfl) sc_law_due.nd (pi_list (pe_slice (sl_listK (K := K)) (pv 1) po_none (po_some (pv 4)))) (blkOk_by (N := N_law_due) (sc := defScope s_law_due) (by decide +kernel)) (fun _ _ _ _ _ => (pg_name (i := 7) sc_law_due.nd rfl (Or.inl rfl))) (fun _ _ _ _ _ => pts_nil) (fun _ _ _ _ _ => (pe_ix (ix_tupK (K := K)) (pv 7) pe_int (fun _ _ => rfl)))) (by rfl)) (pss_one (ps_ret (pe_tup (pa_cons pe_str (pa_cons (pe_ix (ix_tupK (K := K)) (pv 5) pe_int (fun _ _ => rfl)) pa_nil))))) pss_nil)))))
    (pss_one (ps_ret (pe_tup (pa_cons pe_str (pa_cons (pv 1) pa_nil))))))))), ?_⟩)) T.g_law_due
    fun _ _ _ _ _ _ us hl => match us, hl with | [_], _ => rfl
  obtain ⟨ds, d, hvs, ⟨t, rfl, hg2, rfl⟩, q⟩ := h
  obtain ⟨vt, rfl, htext⟩ := hvs.one_inv
  cases htext
  have hg := hg2.g
  have ht : ∀ {H'}, Dt K H' (.str (S t)) (wD t) := .str _
  refine rd_new (K := K) (ds := []) esa_nil (by simp) fun p H2 xs0 e2 hp hp2 hx0 => ?_
  cases hx0
  dsimp only
  refine Es.at (K := K) (d := .list (wsD (linesOf t))) (es_if (c := !decide (t = [])) (est_op (es_op od_neW (es_var (i := 0) rfl ht) (es_w []))) (fun hc => (es_m1 (md_spl (by have := hg.len; omega) (by decide)) (es_var (i := 0) rfl ht) (es_w [10])).eq ?_) (fun hc => (es_lst esa_nil).eq ?_)) fun v H4 e4 hv => ?_
  · unfold linesOf
    rw [if_neg (by simpa using hc)]
  · unfold linesOf
    rw [if_pos (by simpa using hc)]
    rfl
  cases hv with
  | @lst p2 xs _ hl2 hA =>
  have hxs := Dt.ws_eq hA
  subst hxs
  have hpp : linesOf t ≠ [] → p2 ≠ p := fun hne z => by
    have h1 := e4 _ _ hp2
    rw [← z, hl2] at h1
    exact hne (by simpa using HO.lst.inj (Option.some.inj h1))
  have hmany : (linesOf t).length ≤ 400 := Nat.le_trans hg.many (by decide)
  refine ⟨p2, _, rfl, SqL.of hl2, for_it (walk_enum (K := K) (a := p2) (xs := (linesOf t).map wV)) (fun i σ H' => ∃ rows xs z2 z3, σ = [some (.str (S t)), some (.ref p), z2, z3, none, none, none, none, none] ∧ Same H H' ∧ H' p = some (.lst xs) ∧ DtA K H' xs (rowsD rows) ∧ RowsOk i rows ∧ readF t = linesF i rows ((linesOf t).drop i) ∧ H' p2 = some (.lst ((linesOf t).map wV)))
    ⟨[], [], none, none, rfl, e2.trans e4, e4 _ _ hp2, .nil, ⟨Nat.le_refl _, by simp⟩, rfl, hl2⟩ (fun i σ H' _ g => ?_) (fun i y σ H5 H6 hi g hy => ?_) (fun σ H' g => ?_)⟩
  · obtain ⟨rows, xs, z2, z3, _, _, _, _, _, _, g⟩ := g
    exact SqL.of g
  · obtain ⟨rows, xs, z2, z3, rfl, g1, g2, g3, g4, g5, g6⟩ := g
    obtain ⟨Tt, ya, yb, rfl, hT, rfl, hya, hyb⟩ := hy
    cases hya
    have hi' : i < (linesOf t).length := by simpa using hi
    have hyb : ((linesOf t).map wV)[i]? = some yb := hyb
    rw [List.getElem?_map, List.getElem?_eq_getElem hi'] at hyb
    cases hyb
    generalize hline : (linesOf t)[i] = line at *
    have hm : line ∈ linesOf t := by rw [← hline]; exact List.getElem_mem hi'
    have edrop : (linesOf t).drop i = line :: (linesOf t).drop (i + 1) := by rw [List.drop_eq_getElem_cons hi', hline]
    have e6 : Same H5 (upd H5 Tt (.tup [.int (i : Nat), wV line])) := same_new hT _
    refine ⟨_, _, rfl, SqT.of upd_same, rfl, _, _, rfl, _, _, rfl, rfl, ?_⟩
    refine at_ifN (at_cons (Es.at (K := K) (d := .list (wsD (toks line))) (es_c (esa_cons (es_var (i := 3) rfl (dt_w line)) esa_nil) ⟨line, rfl, (hg.line line hm).1, rfl⟩) fun wv H7 e7 hwv => ⟨_, rfl, ?_⟩))
    have g17 := (g1.trans e6).trans e7
    have hp7 := e7 _ _ (e6 _ _ g2)
    have hx7 := (g3.same e6).same e7
    have hpn : H p = none := hp
    have hl7 := e7 _ _ (e6 _ _ g6)
    have hne : linesOf t ≠ [] := List.ne_nil_of_length_pos (by omega)
    refine ⟨wv, p, toks line, rows, xs, i, rfl, trivial, hwv, hg2.w line hm, g4, by omega, hp7, hx7, fun rows' hf H8 xs' m8 h8 d8 => ?_, fun hf H8 m8 => ?_⟩
    · refine ⟨true, rfl, iteF ⟨rows', xs', _, _, rfl, (m8.trans Mo.refl).same8 g17 hpn, h8, d8, lineF_ok hf (hg.line line hm).2.1 (by omega) g4, ?_, m8 p2 _ (hpp hne) hl7⟩⟩
      rw [g5, edrop]
      show (match lineF (toks line) rows with | none => Got.line i | some rows' => linesF (i + 1) rows' _) = _
      rw [hf]
    · have eg : readF t = .line i := by
        rw [g5, edrop]
        show (match lineF (toks line) rows with | none => Got.line i | some rows' => linesF (i + 1) rows' _) = _
        rw [hf]
      refine ⟨false, rfl, iteT ?_⟩
      refine rd_ret (K := K) (d := tell (readF t)) ((es_tup (esa_cons (es_w wLine) (esa_cons (es_var (i := 2) rfl (.int _)) esa_nil))).eq (by rw [eg]; rfl)) fun v9 H9 e9 h9 => q v9 H9 ((m8.same8 g17 hpn).trans e9) h9
  · obtain ⟨rows, xs, z2, z3, rfl, g1, g2, g3, g4, g5, g6⟩ := g
    have hn : ((linesOf t).map wV).length = (linesOf t).length := by simp
    rw [hn] at g4 g5
    rw [List.drop_of_length_le (Nat.le_refl _)] at g5
    have eg : readF t = .rows rows := g5
    rw [eg] at q
    have hrl := g4.1
    have rlen : (rowsD rows).length = rows.length := by simp [rowsD]
    dsimp only
    refine rd_if (b := decide (rows.length > 24)) ((est_op (es_op od_cmp (es_b cb_lenL (esa_cons (es_var (K := K) (i := 1) rfl (.lst g2 g3)) esa_nil)) es_int)).eq (by rw [rlen]; apply decide_eq_decide.mpr; omega)) (fun H7 e7 hb => ?_) (fun H7 e7 hb => ?_)
    · have hc : chk rows = .ground := if_pos (by simpa using hb)
      refine rd_ret (K := K) (d := tell (.rows rows)) ((es_tup (esa_cons (es_w wGround) (esa_cons (es_var (i := 1) rfl ((Dt.lst g2 g3).same e7)) esa_nil))).eq (by show _ = tellC rows (chk rows); rw [hc]; rfl)) fun v9 H9 e9 h9 => q v9 H9 ((g1.trans e7).trans e9) h9
    · have hc : chk rows = chkL [] rows := if_neg (by simpa using hb)
      have g17 := g1.trans e7
      have d7 := g3.same e7
      have l7 := e7 _ _ g2
      have tellE : ∀ {c : Chk}, chkL [] rows = c → tell (.rows rows) = tellC rows c := fun h => by show tellC rows (chk rows) = _; rw [hc, h]
      refine ⟨_, rfl, p, xs, rfl, SqL.of l7, for_it (walk_enum (K := K) (a := p) (xs := xs)) (fun i σ H' => ∃ z2 z3 z4 z5 z6 seen, σ = [some (.str (S t)), some (.ref p), z2, z3, z4, z5, z6, none, none] ∧ Same H7 H' ∧ chkL [] rows = chkL seen (rows.drop i) ∧ ∀ n, n ∈ seen ↔ n ∈ (rows.take i).map Row.name)
        ⟨_, _, _, _, _, [], rfl, Same.refl _, rfl, fun n => by simp⟩ (fun i σ H' _ g => ?_) (fun i y σ H8 H9 hi g hy => ?_) (fun σ H' g => ?_)⟩
      · obtain ⟨_, _, _, _, _, _, _, g, _⟩ := g
        exact SqL.of (g _ _ l7)
      · obtain ⟨z2, z3, z4, z5, z6, seen, rfl, h1, h2, h3⟩ := g
        obtain ⟨Tt, ya, yb, rfl, hT, rfl, hya, hyb⟩ := hy
        cases hya
        have hyb : xs[i]? = some yb := hyb
        obtain ⟨d, hd, hxd⟩ := d7.get hyb
        obtain ⟨r0, hr0, rfl⟩ := rowsD_get hd
        have hi' : i < rows.length := (List.getElem?_eq_some_iff.mp hr0).1
        have edrop : rows.drop i = r0 :: rows.drop (i + 1) := by rw [List.drop_eq_getElem_cons hi', (List.getElem?_eq_some_iff.mp hr0).2]
        have etake : rows.take (i + 1) = rows.take i ++ [r0] := by rw [List.take_succ, hr0]; rfl
        rw [edrop] at h2
        have hm : r0 ∈ rows := List.mem_of_getElem? hr0
        obtain ⟨ro, rw_⟩ := g4.2 r0 hm
        have e9 : Same H8 (upd H8 Tt (.tup [.int (i : Nat), yb])) := same_new hT _
        have e79 := h1.trans e9
        refine ⟨_, _, rfl, SqT.of upd_same, rfl, _, _, rfl, _, _, rfl, rfl, ?_⟩
        have hx9 := hxd.same e79
        generalize hH9 : upd H8 Tt (.tup [.int (i : Nat), yb]) = H9 at e9 e79 hx9 ⊢
        obtain ⟨dn, rs, hdr, -, -⟩ := row_data r0
        obtain ⟨rds, hrd, hr1⟩ := row_1 r0
        have R0 : ∀ {H'} {z6 : Option V}, Same H9 H' → Es K (tOp (rIxT K) (tVar 5) (tC (.int 0))) [some (.str (S t)), some (.ref p), z2, z3, some (.int (i : Nat)), some yb, z6, none, none] H' (wD (headW r0)) := fun {H' z6} e => es_op (od_ixT (atI_0 (x := wD (headW r0)))) (es_var (i := 5) rfl (by rw [← hdr]; exact hx9.same e)) es_int
        have R1 : ∀ {H'} {z6 : Option V}, Same H9 H' → Es K (tOp (rIxT K) (tVar 5) (tC (.int 1))) [some (.str (S t)), some (.ref p), z2, z3, some (.int (i : Nat)), some yb, z6, none, none] H' (wD r0.name) := fun {H' z6} e => es_op (od_ixT hr1) (es_var (i := 5) rfl (by rw [← hrd]; exact hx9.same e)) es_int
        refine rd_set (K := K) (d := .list ((mostI r0).map PyData.int)) (es_if (c := decide (headW r0 = wThing)) (est_op (es_op od_eqW (R0 (Same.refl H9)) (es_w wThing))) (fun hc => ?_) (fun hc => ?_)) fun vm H10 e10 hvm => ?_
        · cases r0 with
          | thing n hh bs ms =>
            have hml : ms.length ≤ 400 := Nat.le_trans rw_.2.1 hmany
            refine (es_op (od_cat (ds := ((ms.map tsD).filter fun _ => true).map lenD) (es := [PyData.int 0]) (by rw [all_filter]; simp; omega)) (es_lc (p := fun _ => true) (f := lenD) (ds := ms.map tsD) (esi_tup (es_op (od_ixT (atI_4 (v := PyData.tuple (ms.map tsD)))) (es_var (i := 5) rfl hx9) es_int)) (fun _ => rfl) (by simp; omega) (fun d hd _ => ?_) fun d hd v H3 e3 hv => ?_) (es_lst (ds := [PyData.int 0]) (esa_cons es_int esa_nil))).eq ?_
            · obtain ⟨l, _, rfl⟩ := List.mem_map.mp hd
              rfl
            · obtain ⟨l, _, rfl⟩ := List.mem_map.mp hd
              exact ⟨est_yes, fun _ => es_b cb_lenT (esa_cons (es_var (i := 8) rfl hv) esa_nil)⟩
            · rw [all_filter, List.map_map]
              unfold mostI
              rw [List.map_append, List.map_map]
              congr 2
              apply List.map_congr_left
              intro l _
              simp [lenD, tsD]
          | mean => exact absurd hc (show ¬ (decide (wMean = wThing) = true) by decide)
          | hold => exact absurd hc (show ¬ (decide (wHold = wThing) = true) by decide)
        · cases r0 with
          | thing n hh bs ms => exact absurd hc (show ¬ (decide (wThing = wThing) = false) by decide)
          | mean => exact es_lst (ds := [PyData.int 0]) (esa_cons es_int esa_nil)
          | hold => exact es_lst (ds := [PyData.int 0]) (esa_cons es_int esa_nil)
        dsimp only
        refine rd_if (b := !r0.good) ?_ (fun H11 e11 hb => ?_) (fun H11 e11 hb => ?_)
        · cases r0 with
          | thing n hh bs ms =>
            have hx10 := hx9.same e10
            refine (est_and (b := decide (bs.length > 3) || (decide (ms.length > 5) || (mostI (.thing n hh bs ms)).any fun y => decide (y > 4))) (est_op (es_op od_eqW (R0 e10) (es_w wThing))) fun _ => est_or ((est_op (es_op od_cmp (es_b cb_lenT (esa_cons (es_op (od_ixT (atI_3 (u := tsD bs))) (es_var (i := 5) rfl hx10) es_int) esa_nil)) es_int)).eq (by rw [ts_len]; apply decide_eq_decide.mpr; omega)) fun _ => est_or ((est_op (es_op od_cmp (es_b cb_lenT (esa_cons (es_op (od_ixT (atI_4 (v := PyData.tuple (ms.map tsD)))) (es_var (i := 5) rfl hx10) es_int) esa_nil)) es_int)).eq (by rw [List.length_map]; apply decide_eq_decide.mpr; omega)) fun _ => est_max (es_var (i := 6) rfl hvm) (by simp [mostI])).eq ?_
            exact good_most
          | mean => exact (est_and (a := false) (b := false) ((est_op (es_op od_eqW (R0 e10) (es_w wThing))).eq (show decide (wMean = wThing) = false by decide)) fun hc => absurd hc (by simp)).eq rfl
          | hold => exact (est_and (a := false) (b := false) ((est_op (es_op od_eqW (R0 e10) (es_w wThing))).eq (show decide (wHold = wThing) = false by decide)) fun hc => absurd hc (by simp)).eq rfl
        · have hgd : ¬ r0.good = true := by simpa using hb
          have hcc : chkL [] rows = .row r0 := by rw [h2]; exact if_neg hgd
          refine rd_ret (K := K) (d := tell (.rows rows)) ((es_tup (esa_cons (es_w wRow) (esa_cons (es_var (i := 5) rfl (hx9.same (e10.trans e11))) esa_nil))).eq (by rw [tellE hcc]; rfl)) fun v9 H12 e12 h9 => q v9 H12 ((((g17.trans e79).trans e10).trans e11).trans e12) h9
        · have hgd : r0.good = true := by simpa using hb
          have h2' : chkL [] rows = if r0.name ∈ seen then .doubled r0.name else chkL (r0.name :: seen) (rows.drop (i + 1)) := by rw [h2]; exact if_pos hgd
          have e91 := e10.trans e11
          have e71 := e79.trans e91
          refine rd_if (b := ((rows.take i).map Row.name).contains r0.name) (est_op (es_op (od_in (ws := (rows.take i).map Row.name)) (R1 e91) ((es_lc (p := fun _ => true) (f := fstD) (esi_list ((es_sl sd_list (es_var (K := K) (i := 1) rfl ((Dt.lst l7 d7).same e71)) eso_no (eso_some (K := K) (es_var (i := 4) rfl (.int _)))).eq (by rw [cut_to]))) (fun _ => rfl) (by rw [List.length_take, rlen]; omega) (fun d hd _ => ?_) fun d hd v H3 e3 hv => ?_).eq ?_))) (fun H12 e12 hb2 => ?_) (fun H12 e12 hb2 => ?_)
          · obtain ⟨r, _, rfl⟩ := List.mem_map.mp (List.mem_of_mem_take hd)
            cases r <;> rfl
          · obtain ⟨r, _, rfl⟩ := List.mem_map.mp (List.mem_of_mem_take hd)
            obtain ⟨rds', hrd', hr1'⟩ := row_1 r
            refine ⟨est_yes, fun _ => (es_op (od_ixT hr1') (es_var (i := 7) rfl (by rw [← hrd']; exact hv)) es_int).eq ?_⟩
            cases r <;> rfl
          · rw [all_filter]
            unfold rowsD wsD
            rw [← List.map_take, List.map_map, List.map_map]
            congr 1
            apply List.map_congr_left
            intro r _
            cases r <;> rfl
          · have hin : r0.name ∈ seen := (h3 _).mpr (by simpa using hb2)
            have hcc : chkL [] rows = .doubled r0.name := by rw [h2', if_pos hin]
            refine rd_ret (K := K) (d := tell (.rows rows)) ((es_tup (esa_cons (es_w wDoubled) (esa_cons (R1 (e91.trans e12)) esa_nil))).eq (by rw [tellE hcc]; rfl)) fun v9 H13 e13 h9 => q v9 H13 (((g17.trans e71).trans e12).trans e13) h9
          · have hin : r0.name ∉ seen := fun z => by
              have := (h3 _).mp z
              rw [List.contains_iff_mem.mpr this] at hb2
              cases hb2
            refine ⟨z2, z3, _, _, _, r0.name :: seen, rfl, e71.trans e12, by rw [h2', if_neg hin], fun n => ?_⟩
            rw [etake, List.map_append, List.mem_append, List.mem_cons, h3 n]
            simp
            exact Or.comm
      · obtain ⟨z2, z3, z4, z5, z6, seen, rfl, h1, h2, h3⟩ := g
        rw [List.drop_of_length_le (by rw [d7.len, rlen]; exact Nat.le_refl _)] at h2
        dsimp only
        refine rd_ret (K := K) (d := tell (.rows rows)) ((es_tup (esa_cons (es_w wTold) (esa_cons (es_var (i := 1) rfl ((Dt.lst l7 d7).same h1)) esa_nil))).eq (by rw [tellE h2]; rfl)) fun v9 H9 e9 h9 => q v9 H9 ((g17.trans h1).trans e9) h9
end
end K83
/-! several clauses 'except X as e', of which one takes all -/
namespace K83
open PySem PySem.Spec PyProof.Rows L2
open C8 (Cal pe_c)
abbrev TSx := Addr → Value → Option Addr → TS
/-- what the clauses wish, one behind the other; slot i is the name's -/
def wClauses (K : PySem.W.Frag) (i : Nat) (D : L2.Ends) : List (Value × TSx) → WX
  | [] => fun _ _ _ _ => False
  | (c, ts) :: r => wAs K c i ts (wClauses K i D r) D
inductive Clauses (X : Cx) (n : Str) : List ExceptHandler → List (Value × TSx) → Prop where
  | nil {hs : List ExceptHandler} : Clauses X n hs []
  | cons {x : Str} {c : Value} {ts : TSx} {b : Stmt} {bs : List Stmt} {p q : Pos} {hs : List ExceptHandler} {l : List (Value × TSx)} (nm : Names X x c)
      (su : ∀ (a : Addr) (o : Obj) (cls : Value) (d : Option Addr) (pn : List (Addr × Obj)), Zc cls d o → (∃ vs, o.data = .fields vs) → PSs (X.suite a ((a, o) :: pn)) (b :: bs) (ts a cls d)) (r : Clauses X n hs l) :
      Clauses X n (.ExceptHandler (some (.Name x p)) (some n) (b :: bs) q :: hs) ((c, ts) :: l)
section
variable {X : Cx} {n : Str} {i : Nat} {body : List Stmt} {h0 : ExceptHandler} {hs : List ExceptHandler} {l : List (Value × TSx)} {pos : Pos} {tb : WX → TS}
theorem ps_try_clauses (st : X.stack = X.env :: X.outer) (hf : X.env.frame = some X.env.locals) (hN : X.N.Nodup) (hi : X.N[i]? = some n) (hln : X.env.kindOf n = some .local)
    (hb : ∀ (W : WX) (pn : List (Addr × Obj)) (xe : Value → Shared → Prop), Takes (X.tr pn xe) W → PassesOwn (model X.prog X.w) X.A X.env xe → PSs (X.tr pn xe) body (tb W)) (hc : Clauses X n (h0 :: hs) l) :
    PS X (.Try body (h0 :: hs) [] [] pos) (fun D σ H => tb (wClauses X.K i D l) D σ H) := by
  refine ⟨fun pins s σ H D I h => ?_⟩
  have ok := I.ok
  have fr : X.A.frames = some (X.env :: X.outer) := by rw [ok.frames, st]
  have loc : Loc X.env.scope n := .inl hln
  let wish : Value → Shared → Prop := fun e s₁ => wpAny (model X.prog X.w) X.A (noteFrame e X.env) (fun _ s₂ => wpAny (model X.prog X.w) X.A (setFlight e none) (fun _ s₃ => wpAny (model X.prog X.w) X.A (handleBy e X.env (h0 :: hs)) (SP X pins D) X.xe s₃) X.xe s₂) X.xe s₁
  have caught : Takes (X.tr (X.pn ++ pins) wish) (wClauses X.K i D l) := by
    intro u s' xx
    obtain ⟨a, B, sI, pins', σ', H', cls, d, rfl, J', nb, up, sky, na, os, ag, w⟩ := xx
    have J : Inv X pins σ' H' sI := J'.ofTry ok
    have sky' : Sky B (X.env :: X.outer) a (Zc cls d) X.env.locals s'.heap := by rw [← st]; exact sky
    show wpAny (model X.prog X.w) X.A (noteFrame (.ref a) X.env) _ _ _
    refine Sky.land Zc.steady fr hf sky' fun h3 fl up3 => ?_
    have J3 : Inv X pins σ' H' { s' with heap := h3 } := J.landed nb fl.1 (up.trans up3) os ag
    obtain ⟨oe, vs, he, hz, hd⟩ := fl.there
    have off : a ∉ frs (X.env :: X.outer) := fun hm => by
      obtain ⟨_, o', e', hnf⟩ := fl.2.2.1.mem hm
      rw [he] at e'
      cases e'
      exact hnf _ hd
    have nL : a ≠ X.env.locals := fun z => off (List.mem_filterMap.mpr ⟨X.env, List.mem_cons_self, by rw [hf, z]⟩)
    have nF : a ∉ X.fs := fun hm => by
      obtain ⟨e, he, q⟩ := List.mem_filterMap.mp hm
      exact off (List.mem_filterMap.mpr ⟨e, List.mem_cons_of_mem _ he, q⟩)
    have S3 := J3.suite he hd na nL nF
    have go : ∀ {hs' : List ExceptHandler} {l' : List (Value × TSx)}, Clauses X n hs' l' → wClauses X.K i D l' cls d σ' H' → wpAny (model X.prog X.w) X.A (handleBy (.ref a) X.env hs') (SP X pins D) X.xe { s' with heap := h3 } := by
      intro hs' l' hk
      induction hk with
      | nil => intro w; exact w.elim
      | @cons x c ts b bs p q hs2 l2 nm su r ih =>
        intro w
        obtain ⟨k, hk1, yes, no⟩ := w
        refine wpAny_handleBy_cons (codeAny_handlers_test ?_) (by intro z; cases z)
        have LT : PySem.W.Looks (model X.prog X.w) h3 (typeOf (.ref a)) cls := fun A Q E s kk q => wpAny_typeOf_ref (kk _ _ he) (by rw [hz.1]; exact q)
        have LM := PySem.W.exm_one (M := model X.prog X.w) (J3.kIn) LT hk1
        have test : ∀ {Q : Value → Shared → Prop} {E : Value → Shared → Prop}, Q c { s' with heap := h3 } → wpAny (model X.prog X.w) (X.A.mark (some (.ref a))) (eval (.Name x p) X.env) Q E { s' with heap := h3 } := fun {Q E} q => by
          obtain ⟨hg, hdbg, hm | ⟨hm, hv, hnn⟩⟩ := nm
          · exact ld_glob (X := X.suite a ((a, oe) :: (X.pn ++ pins))) S3 hg hm q hdbg
          · exact ld_blt (X := X.suite a ((a, oe) :: (X.pn ++ pins))) S3 hg hm hv q hnn hdbg
        refine test (LM.here ?_)
        cases k with
        | true =>
          refine codeAny_handlers_suite_as (HandSPX.lands_againZ fl fun h4 fl4 up4 => ?_)
          have J4 : Inv X pins σ' H' { s' with heap := h4 } := J.landed nb fl4.1 ((up.trans up3).trans up4) os ag
          obtain ⟨oe4, vs4, he4, hz4, hd4⟩ := fl4.there
          refine store_ok (X := X.suite a ((a, oe4) :: (X.pn ++ pins))) (v := .ref a) (J4.suite he4 hd4 na nL nF) hN hi loc rfl (fun s5 S5 => ?_) (.inr hln)
          refine wpAny_mono ((su a oe4 cls d (X.pn ++ pins) hz4 ⟨_, hd4⟩).run [] s5 _ H' _ S5 (yes rfl a na)) (fun f s6 hsp => ?_) (fun _ _ z => False.elim z)
          have over : ∀ {σ6 : L2.St} {H6 : Hp} {Q : Shared → Prop}, Inv (X.suite a ((a, oe4) :: (X.pn ++ pins))) [] σ6 H6 s6 → (∀ s7, Inv X pins (σ6.set i none) H6 s7 → Q s7) →
              wpAny (model X.prog X.w) X.A (do bindName X.env n .none; unbindBehindTheSuite X.env n q) (fun _ s7 => Q s7) X.xe s6 := fun {σ6 H6 Q} S6 hq => gone_ok (S6.unsuite ok) hN hi hln hq
          cases f with
          | next => obtain ⟨σ6, H6, S6, q6⟩ := hsp; exact over S6 fun s7 J7 => ⟨_, _, J7, q6⟩
          | brk => obtain ⟨σ6, H6, S6, q6⟩ := hsp; exact over S6 fun s7 J7 => ⟨_, _, J7, q6⟩
          | cont => obtain ⟨σ6, H6, S6, q6⟩ := hsp; exact over S6 fun s7 J7 => ⟨_, _, J7, q6⟩
          | ret u => obtain ⟨v6, σ6, H6, S6, r6, q6⟩ := hsp; exact over S6 fun s7 J7 => ⟨_, _, _, J7, r6, q6⟩
        | false =>
          show wpAny _ X.A (handleBy (.ref a) X.env hs2) _ _ _
          exact ih (no rfl)
    exact go hc w
  refine wpAny_Try_except (wpAny_mono ((hb _ (X.pn ++ pins) wish caught PassesOwn.looking).run [] s σ H D (I.toTry _) h) (fun f s1 hsp => ?_) (fun e s1 he => he))
  cases f with
  | next => obtain ⟨σ', H', J', q⟩ := hsp; exact wpAny_execs_nil ⟨σ', H', J'.ofTry ok, q⟩
  | brk => obtain ⟨σ', H', J', q⟩ := hsp; exact ⟨σ', H', J'.ofTry ok, q⟩
  | cont => obtain ⟨σ', H', J', q⟩ := hsp; exact ⟨σ', H', J'.ofTry ok, q⟩
  | ret u => obtain ⟨v, σ', H', J', r, q⟩ := hsp; exact ⟨v, σ', H', J'.ofTry ok, r, q⟩
end
end K83
namespace K83
open PySem PySem.Spec PyProof.Rows L2
open C8 (Cal pe_c CalAt)
def wText : Wd := [116, 101, 120, 116]
section
variable {P : Program} {w : World} {K : PySem.W.Frag} {mg : Str → Option Value} {base : Heap}
def spCaught (K : PySem.W.Frag) : Sp := fun vs H Q _ => ∃ o : V, vs = [o] ∧ ((∃ t, o = .str (S t) ∧ GoodT t ∧ Af K H (tell (readF t)) Q) ∨
  ((∃ ty, TyX K H o ty ∧ PySem.W.kitOne K ty (.type "str") = some false) ∧ ∀ p H2, Same H H2 → SqT K H2 p [wV wText, o] → Q (.ref p) H2))
abbrev N_law_caught : List Str := ["text", "e", "found"]
abbrev P_law_caught : List Str := ["text"]
theorem sc_law_caught : FnScope N_law_caught P_law_caught (defScope s_law_caught) := ⟨rfl, rfl, rfl, by decide +kernel, rfl, by decide +kernel, by decide +kernel⟩
theorem insC (T : Tx w K mg) : C8.InsC K (He.ga K "Ground") := by
  have X := (fx_of T).ins
  exact ⟨T.c_Ground, X.ha, X.hn, X.htk, X.hm, X.me⟩
def rIsG (K : PySem.W.Frag) (C : Addr) : List V → Hp → VK → Prop := fun xs H Q => ∃ a dx fs, xs = [.ref a, .ref C] ∧ H a = some (.ins C dx fs) ∧ Q (.bl true) H
theorem call_isGK {X : Cx} {K : PySem.W.Frag} {C : Addr} (c : C8.InsC K C) (hK : X.K = K := by rfl) : CallR X (.builtin "isinstance") (rIsG K C) := by
  subst hK
  exact C8.call_isC c
theorem c_law_caught (T : Tx w K mg) : Cal P w K mg base 229 "_law_caught" (spCaught K) [] := by
  obtain ⟨fd, F⟩ := T.d_law_caught
  have X := fx_of T
  have c_read_ground := c_read_ground (P := P) (base := base) T
  have IC := insC T
  refine cal_of F (F.ok sc_law_caught (fun vs H Q E h => by obtain ⟨_, rfl, _⟩ := h; rfl) (fun cdv A outer s H vs Q E hr h => ⟨_, PSs.nox (pss_one (ps_try_clauses (i := 1) rfl rfl sc_law_caught.nd rfl rfl
    (fun W pn xe tk _ => pss_cons (ps_set (i := 2) sc_law_caught.nd rfl (Or.inl rfl) (pe_cr c_read_ground hr (by decide) rfl tk (pa_cons (pv 0) pa_nil)))
      (pss_one (ps_ret (pe_ifExp (pt_val (pe_callB (call_isGK (K := K) IC) rfl T.n_isinstance b_isinstance (pa_cons (pv 2) (pa_cons (gR T.g_Ground) pa_nil)))) (pe_tup (pa_cons pe_str (pa_cons (C8.pe_mt0 (m_rows T) hr (by decide) (pv 2)) pa_nil))) (pe_tup (pa_cons pe_str (pa_cons pe_non pa_nil)))))))
    (.cons ⟨rfl, rfl, .inl T.g_NoText⟩ (fun a oe cls d pn hz hf => pss_one (ps_ret (pe_tup (pa_cons pe_str (pa_cons (pe_xf X.eT.xf X.eT.no hz hf (pv 1)) pa_nil)))))
    (.cons ⟨rfl, rfl, .inl T.g_NoLine⟩ (fun a oe cls d pn hz hf => pss_one (ps_ret (pe_tup (pa_cons pe_str (pa_cons (pe_xf X.eL.xf X.eL.no hz hf (pv 1)) pa_nil)))))
    (.cons ⟨rfl, rfl, .inl T.g_NoRow⟩ (fun a oe cls d pn hz hf => pss_one (ps_ret (pe_tup (pa_cons pe_str (pa_cons (pe_xf X.eR.xf X.eR.no hz hf (pv 1)) pa_nil)))))
    (.cons ⟨rfl, rfl, .inl T.g_Doubled⟩ (fun a oe cls d pn hz hf => pss_one (ps_ret (pe_tup (pa_cons pe_str (pa_cons (pe_xf X.eD.xf X.eD.no hz hf (pv 1)) pa_nil)))))
    (.cons ⟨rfl, rfl, .inl T.g_NoGround⟩ (fun a oe cls d pn hz hf => pss_one (ps_ret (pe_tup (pa_cons pe_str (pa_cons (pe_callTy (call_listK (K := K)) rfl T.n_list b_list (pa_cons (pe_xf X.eG.xf X.eG.no hz hf (pv 1)) pa_nil)) pa_nil)))))
      .nil))))))), ?_⟩)) T.g_law_caught
    fun _ _ _ _ _ _ us hl => match us, hl with | [_], _ => rfl
  have em : ∀ {x y : Str} {b : Bool}, (x, y, b) ∈ exms → PySem.W.exmOne K (.ref (He.ga K x)) (.ref (He.ga K y)) = some b := fun h => exm_of (X.em _ h)
  obtain ⟨o, rfl, ⟨t, rfl, hg, q⟩ | ⟨hty, q⟩⟩ := h
  · have fin : ∀ {z : Str} {w0 : Wd} {dd : PyData} {H' : Hp} {v : V}, z = S w0 → Same H H' → Dt K H' v dd → tell (readF t) = .tuple [wD w0, dd] → ([V.str z, v] : List V).length ≤ sizeLine ∧ ∀ p, H' p = none → Q (.ref p) (upd H' p (.tup [.str z, v])) := fun hz e hv ht =>
      ⟨by show 2 ≤ sizeLine; decide, fun p hp => q _ _ (e.trans (same_new hp _)) (by rw [ht, hz]; exact .tup (SqT.of upd_same) (.cons (.str _) (.one (hv.same (same_new hp _)))))⟩
    refine ⟨_, rfl, .str (S t), rfl, .inl ⟨t, rfl, hg, ?_⟩⟩
    cases hgot : readF t with
    | line k =>
      exact fun H2 e2 d H3 e3 hd hx => ⟨false, em (x := "NoLine") (by simp [exms]), (fun z => nomatch z), fun _ => ⟨true, em (x := "NoLine") (by simp [exms]), fun _ a ha => ⟨_, rfl, rfl, rfl, d, _, _, rfl, hx, rfl, fin (w0 := wLine) (dd := .int (k : Nat)) (by decide +kernel) (e2.trans e3) (.int _) (by rw [hgot]; rfl)⟩, (fun z => nomatch z)⟩⟩
    | rows rows =>
      have ht : tell (readF t) = tellC rows (chk rows) := by rw [hgot]; rfl
      refine ⟨fun hc x H2 e2 hG => ?_, fun H2 a e2 hv => ?_⟩
      · obtain ⟨dx, l, kb, h1, h2⟩ := id hG
        refine ⟨_, rfl, x, dx, _, rfl, h1, true, rfl, iteT ?_⟩
        refine ⟨_, rfl, x, dx, _, rfl, h1, rfl, x, rowsD rows, rfl, hG, fun v H3 e3 hv => fin (w0 := wTold) (dd := .list (rowsD rows)) (by decide +kernel) (e2.trans e3) hv (by rw [ht, hc]; rfl)⟩
      · cases hch : chk rows with
        | fine => trivial
        | ground =>
          rw [hch] at ht
          refine fun H3 e3 d H4 e4 hd hx => ⟨false, em (x := "NoGround") (by simp [exms]), (fun z => nomatch z), fun _ => ⟨false, em (x := "NoGround") (by simp [exms]), (fun z => nomatch z), fun _ => ⟨false, em (x := "NoGround") (by simp [exms]), (fun z => nomatch z), fun _ => ⟨false, em (x := "NoGround") (by simp [exms]), (fun z => nomatch z), fun _ => ⟨true, em (x := "NoGround") (by simp [exms]), fun _ a9 ha9 => ⟨_, rfl, rfl, rfl, d, _, _, rfl, hx, rfl, ?_⟩, (fun z => nomatch z)⟩⟩⟩⟩⟩
          have hv4 := hv.same (e3.trans e4)
          have hv4' := hv4
          cases hv4 with
          | @lst _ xs _ hl hA =>
          refine ⟨a, xs, rfl, .inl (SqL.of hl), fun l hl2 => ?_⟩
          exact fin (w0 := wGround) (dd := .list (rowsD rows)) (by decide +kernel) (((e2.trans e3).trans e4).trans (same_new hl2 _)) (.lst upd_same (hA.same (same_new hl2 _))) ht
        | row r =>
          rw [hch] at ht
          exact fun H3 v' e3 hv' d H4 e4 hd hx => ⟨false, em (x := "NoRow") (by simp [exms]), (fun z => nomatch z), fun _ => ⟨false, em (x := "NoRow") (by simp [exms]), (fun z => nomatch z), fun _ => ⟨true, em (x := "NoRow") (by simp [exms]), fun _ a9 ha9 => ⟨_, rfl, rfl, rfl, d, _, _, rfl, hx, rfl, fin (w0 := wRow) (dd := r.data) (by decide +kernel) ((e2.trans e3).trans e4) (hv'.same e4) ht⟩, (fun z => nomatch z)⟩⟩⟩
        | doubled n =>
          rw [hch] at ht
          exact fun H3 e3 d H4 e4 hd hx => ⟨false, em (x := "Doubled") (by simp [exms]), (fun z => nomatch z), fun _ => ⟨false, em (x := "Doubled") (by simp [exms]), (fun z => nomatch z), fun _ => ⟨false, em (x := "Doubled") (by simp [exms]), (fun z => nomatch z), fun _ => ⟨true, em (x := "Doubled") (by simp [exms]), fun _ a9 ha9 => ⟨_, rfl, rfl, rfl, d, _, _, rfl, hx, rfl, fin (w0 := wDoubled) (dd := wD n) (by decide +kernel) ((e2.trans e3).trans e4) (dt_w n) ht⟩, (fun z => nomatch z)⟩⟩⟩⟩
  · refine ⟨_, rfl, o, rfl, .inr ⟨hty, fun d H3 e3 hd hx => ⟨true, em (x := "NoText") (by simp [exms]), fun _ a ha => ⟨_, rfl, rfl, rfl, d, _, _, rfl, hx, rfl, by show 2 ≤ sizeLine; decide, fun p hp => ?_⟩, (fun z => nomatch z)⟩⟩⟩
    have := q p (upd H3 p (.tup [.str "text", o])) (e3.trans (same_new hp _)) (by rw [show wV wText = V.str "text" from congrArg V.str (show S wText = ("text" : Str) by decide +kernel)]; exact SqT.of upd_same)
    exact this
end
end K83
namespace K83
open PySem PySem.Spec PyProof.Rows L2
open C8 (Cal pe_c CalAt)
section
variable {P : Program} {w : World} {K : PySem.W.Frag} {mg : Str → Option Value} {base : Heap}
/-! ### _law_cell, _law_box, _law_take -/
def spCell (K : PySem.W.Frag) : Sp := fun vs H Q _ => ∃ (a : Addr) (ns : List Int) (k : Nat), vs = [.ref a, .int (k : Nat)] ∧ SqL K H a (ns.map V.int) ∧ k ≤ 100 ∧ ∀ i H', Same H H' → Q (.int i) H'
abbrev N_law_cell : List Str := ["script", "k"]
theorem sc_law_cell : FnScope N_law_cell N_law_cell (defScope s_law_cell) := ⟨rfl, rfl, rfl, by decide +kernel, rfl, by decide +kernel, by decide +kernel⟩
theorem ixN_lt {n k : Nat} (h : k < n) : ixN n (k : Int) = some k := by
  unfold ixN
  rw [if_pos (by omega), if_pos (by omega)]
  simp
theorem iT {α : Prop} {c : Bool} {A B : Prop} (h : c = true) (a : A) : if c = true then A else B := by rw [h]; exact iteT a
theorem iF {c : Bool} {A B : Prop} (h : c = false) (b : B) : if c = true then A else B := by rw [h]; exact iteF b
theorem c_law_cell (T : Tx w K mg) : Cal P w K mg base 1 "_law_cell" (spCell K) [] := by
  obtain ⟨fd, F⟩ := T.d_law_cell
  refine cal_of F (F.ok sc_law_cell (fun vs H Q E h => by obtain ⟨a, ns, k, rfl, _⟩ := h; rfl) (fun cdv A outer s H vs Q E hr h => ⟨_, PSs.nox (pss_cons (ps_if (pt_cmpR op_lt (pv 1) (pe_callB (call_lenK (K := K)) rfl T.n_len PySem.boot_len (pa_cons (pv 0) pa_nil)) (nomark _)) (pss_one (ps_ret (pe_ix (ix_listK (K := K)) (pv 0) (pv 1) (fun _ _ => rfl)))) pss_nil)
    (pss_one (ps_ret (pe_op op_add (pe_op op_mul pe_int (pv 1)) pe_int)))), ?_⟩)) T.g_law_cell
    fun _ _ _ _ _ _ us hl => match us, hl with | [_, _], _ => rfl
  obtain ⟨a, ns, k, rfl, hL, h100, q⟩ := h
  refine ⟨_, rfl, _, rfl, _, _, rfl, .inl ⟨_, hL, rfl⟩, _, _, rfl, rfl, _, rfl, ?_⟩
  rw [List.length_map]
  by_cases c : k < ns.length
  · rw [decide_eq_true (by omega : (k : Int) < (ns.length : Int))]
    exact iteT ⟨_, rfl, _, rfl, a, _, _, .int ns[k], rfl, rfl, hL, atI_nat (by rw [List.getElem?_map, List.getElem?_eq_getElem c]; rfl), q _ H (Same.refl H)⟩
  · rw [decide_eq_false (by omega : ¬ (k : Int) < (ns.length : Int))]
    exact iteF ⟨_, rfl, _, _, rfl, rfl, .inl ⟨by decide, by decide⟩, _, _, rfl, rfl, q _ H (Same.refl H)⟩
/-- at b stands a box that has been asked at most n times -/
def Bx (H : Hp) (b : Addr) (n : Nat) : Prop := ∃ (x y z : Int), H b = some (.lst [.int x, .int y, .int z]) ∧ 0 ≤ y ∧ y < 2147483629 ∧ 0 ≤ z ∧ z ≤ n
theorem Bx.mono {H : Hp} {b : Addr} {n m : Nat} (h : Bx H b n) (e : n ≤ m) : Bx H b m := by
  obtain ⟨x, y, z, h1, h3, h4, h5, h6⟩ := h
  exact ⟨x, y, z, h1, h3, h4, h5, by omega⟩
theorem Bx.same {H H' : Hp} {b : Addr} {n : Nat} (h : Bx H b n) (e : Same H H') : Bx H' b n := by
  obtain ⟨x, y, z, h1, h2⟩ := h
  exact ⟨x, y, z, e _ _ h1, h2⟩
def spBox (K : PySem.W.Frag) : Sp := fun vs H Q _ => ∃ i : Int, vs = [.int i] ∧ ∀ b H', Same H H' → H b = none → Bx H' b 0 → Q (.ref b) H'
abbrev N_law_box : List Str := ["cell"]
theorem sc_law_box : FnScope N_law_box N_law_box (defScope s_law_box) := ⟨rfl, rfl, rfl, by decide +kernel, rfl, by decide +kernel, by decide +kernel⟩
theorem c_law_box (T : Tx w K mg) : Cal P w K mg base 1 "_law_box" (spBox K) [] := by
  obtain ⟨fd, F⟩ := T.d_law_box
  refine cal_of F (F.ok sc_law_box (fun vs H Q E h => by obtain ⟨i, rfl, _⟩ := h; rfl) (fun cdv A outer s H vs Q E hr h => ⟨_, PSs.nox (pss_one (ps_ret (pe_lst (pa_cons (pe_callB (call_max2 rfl) rfl T.n_max b_max (pa_cons pe_int (pa_cons (pe_op op_sub (pv 0) (pe_op op_pow pe_int pe_int)) pa_nil))) (pa_cons (pe_op op_mod (pv 0) pe_int) (pa_cons pe_int pa_nil)))))), ?_⟩)) T.g_law_box
    fun _ _ _ _ _ _ us hl => match us, hl with | [_], _ => rfl
  obtain ⟨i, rfl, q⟩ := h
  refine ⟨_, rfl, _, _, rfl, rfl, ⟨by decide, by decide, by decide⟩, _, _, rfl, rfl, _, _, rfl, _, rfl, _, _, rfl, rfl, (by show (0 : Int) < 2147483629; decide), (by show 3 ≤ sizeLine; decide), fun b hb => ?_⟩
  exact q b _ (same_new hb _) hb ⟨_, _, _, upd_same, Int.emod_nonneg _ (by decide), Int.emod_lt_of_pos _ (by decide), Int.le_refl _, Int.le_refl _⟩
def spTake (K : PySem.W.Frag) : Sp := fun vs H Q _ => ∃ (b : Addr) (many : Int) (n : Nat), vs = [.ref b, .int many] ∧ Bx H b n ∧ n ≤ 1000000 ∧ 0 < many ∧ many < 1000000 ∧ ∀ r H', Mo b H H' → Bx H' b (n + 1) → 0 ≤ r → r < many → Q (.int r) H'
abbrev N_law_take : List Str := ["box", "many", "number", "digit"]
abbrev P_law_take : List Str := ["box", "many"]
theorem sc_law_take : FnScope N_law_take P_law_take (defScope s_law_take) := ⟨rfl, rfl, rfl, by decide +kernel, rfl, by decide +kernel, by decide +kernel⟩
theorem pw60 {x j : Int} (h0 : 0 ≤ x) (h : x < 2 ^ 60) (hj : 0 ≤ j ∧ j ≤ 1000000) : CPow x j := by
  refine ⟨hj.1, hj.2, ?_⟩
  have e : x.natAbs < 2 ^ 60 := by omega
  exact Nat.lt_of_lt_of_le e (by decide)
theorem c_law_take (T : Tx w K mg) : Cal P w K mg base 1 "_law_take" (spTake K) [] := by
  obtain ⟨fd, F⟩ := T.d_law_take
  refine cal_of F (F.ok sc_law_take (fun vs H Q E h => by obtain ⟨b, many, n, rfl, _⟩ := h; rfl) (fun cdv A outer s H vs Q E hr h => ⟨_, PSs.nox (pss_cons (ps_if (pt_cmpR op_gt (pe_ix (ix_listK (K := K)) (pv 0) pe_int (fun _ _ => rfl)) pe_int (nomark _)) (pss_cons (ps_set (i := 3) sc_law_take.nd rfl (Or.inl rfl) (pe_op op_mod (pe_ix (ix_listK (K := K)) (pv 0) pe_int (fun _ _ => rfl)) (pv 1)))
    (pss_cons (ps_asg (pe_op op_fdivW (pe_ix (ix_listK (K := K)) (pv 0) pe_int (fun _ _ => rfl)) (pv 1)) (pg_sub (pv 0) pe_int set_list))
    (pss_one (ps_ret (pv 3))))) pss_nil)
    (pss_cons (ps_asg (pe_op op_add (pe_ix (ix_listK (K := K)) (pv 0) pe_int (fun _ _ => rfl)) pe_int) (pg_sub (pv 0) pe_int set_list))
    (pss_cons (ps_set (i := 2) sc_law_take.nd rfl (Or.inl rfl) (pe_op op_mod (pe_op op_pow (pe_op op_add (pe_op op_add (pe_ix (ix_listK (K := K)) (pv 0) pe_int (fun _ _ => rfl)) (pe_op op_mul pe_int (pe_ix (ix_listK (K := K)) (pv 0) pe_int (fun _ _ => rfl)))) pe_int) pe_int) pe_int))
    (pss_cons (ps_set (i := 2) sc_law_take.nd rfl (Or.inl rfl) (pe_op op_mod (pe_op op_pow (pe_op op_add (pv 2) (pe_op op_mul pe_int (pe_ix (ix_listK (K := K)) (pv 0) pe_int (fun _ _ => rfl)))) pe_int) pe_int))
    (pss_one (ps_ret (pe_op op_mod (pe_op op_fdivW (pv 2) pe_int) (pv 1)))))))), ?_⟩)) T.g_law_take
    fun _ _ _ _ _ _ us hl => match us, hl with | [_, _], _ => rfl
  obtain ⟨b, many, n, rfl, hB, hn, hm0, hm1, q⟩ := h
  obtain ⟨x, y, z, hb, hy0, hy1, hz0, hz1⟩ := hB
  have dB : ∀ {H' : Hp} {x y z : Int}, H' b = some (.lst [.int x, .int y, .int z]) → Dt K H' (.ref b) (.list [.int x, .int y, .int z]) := fun h => .lst h (.cons (.int _) (.cons (.int _) (.cons (.int _) .nil)))
  have wd : CDivW x many := wide_div (b := 40) hm0 (by omega) (by decide) (by decide)
  refine rd_if (b := decide (x > 0)) (est_op (es_op od_cmp (es_op (od_ixL atI_0) (es_var (K := K) (i := 0) rfl (dB hb)) es_int) es_int)) (fun H2 e2 hc => ?_) (fun H2 e2 hc => ?_)
  · refine rd_set (es_op (K := K) (od_rI (C := fun _ j => 0 < j) (g := fun i j => i % j) hm0) (es_op (od_ixL atI_0) (es_var (i := 0) rfl ((dB hb).same e2)) es_int) (es_var (i := 1) rfl (.int _))) fun v3 H3 e3 hv3 => ?_
    cases hv3
    have hb3 := e3 _ _ (e2 _ _ hb)
    refine (es_op (K := K) (od_rI (C := CDivW) (g := fun i j => i / j) wd) (es_op (od_ixL atI_0) (es_var (i := 0) rfl (dB hb3)) es_int) (es_var (i := 1) rfl (.int _))).at fun v4 H4 e4 hv4 => ?_
    cases hv4
    refine ⟨_, rfl, b, _, _, 0, rfl, rfl, e4 _ _ hb3, ixN_lt (k := 0) (by simp), _, rfl, ?_⟩
    exact q _ _ ((Mo.of ((e2.trans e3).trans e4)).trans Mo.upd) ⟨_, y, z, upd_same, hy0, hy1, hz0, by omega⟩ (Int.emod_nonneg _ (by omega)) (Int.emod_lt_of_pos _ hm0)
  · refine (es_op (K := K) od_add (es_op (od_ixL (i := 2) (atI_nat (j := 2) rfl)) (es_var (i := 0) rfl ((dB hb).same e2)) es_int) es_int).at fun v3 H3 e3 hv3 => ?_
    cases hv3
    refine ⟨_, rfl, b, _, _, 2, rfl, rfl, e3 _ _ (e2 _ _ hb), ixN_lt (k := 2) (by simp), ?_⟩
    generalize hH4 : upd H3 b (.lst ([V.int x, V.int y, V.int z].set 2 (V.int (z + 1)))) = H4
    have hb4 : H4 b = some (.lst [.int x, .int y, .int (z + 1)]) := by rw [← hH4]; exact upd_same
    have m4 : Mo b H H4 := by rw [← hH4]; exact (Mo.of (e2.trans e3)).trans Mo.upd
    have pos : ∀ {a c : Int}, 0 < c → 0 ≤ a % c ∧ a % c < c := fun h => ⟨Int.emod_nonneg _ (by omega), Int.emod_lt_of_pos _ h⟩
    refine rd_set (es_op (K := K) (od_rI (C := fun _ j => 0 < j) (g := fun i j => i % j) (by decide : (0 : Int) < 2147483647)) (es_op (od_rI (C := CPow) (g := fun i j => i ^ j.toNat) (pw60 (x := y + 6199 * (z + 1) + 191) (by omega) (by omega) ⟨by decide, by decide⟩)) (es_op od_add (es_op od_add (es_op (od_ixL (i := 1) (atI_nat (j := 1) rfl)) (es_var (i := 0) rfl (dB hb4)) es_int) (es_op (od_rI (C := CMul) (g := fun i j => i * j) (.inl ⟨by decide, by decide⟩)) es_int (es_op (od_ixL (i := 2) (atI_nat (j := 2) rfl)) (es_var (i := 0) rfl (dB hb4)) es_int))) es_int) es_int) es_int) fun v5 H5 e5 hv5 => ?_
    cases hv5
    generalize hm : (y + 6199 * (z + 1) + 191) ^ (5 : Int).toNat % 2147483647 = m
    obtain ⟨p1, p2⟩ : 0 ≤ m ∧ m < 2147483647 := by rw [← hm]; exact pos (by decide)
    have hb5 := e5 _ _ hb4
    refine rd_set (es_op (K := K) (od_rI (C := fun _ j => 0 < j) (g := fun i j => i % j) (by decide : (0 : Int) < 2147483587)) (es_op (od_rI (C := CPow) (g := fun i j => i ^ j.toNat) (pw60 (x := m + 92902 * (z + 1)) (by omega) (by omega) ⟨by decide, by decide⟩)) (es_op od_add (es_var (i := 2) rfl (.int _)) (es_op (od_rI (C := CMul) (g := fun i j => i * j) (.inl ⟨by decide, by decide⟩)) es_int (es_op (od_ixL (i := 2) (atI_nat (j := 2) rfl)) (es_var (i := 0) rfl (dB hb5)) es_int))) es_int) es_int) fun v6 H6 e6 hv6 => ?_
    cases hv6
    refine (es_op (K := K) (od_rI (C := fun _ j => 0 < j) (g := fun i j => i % j) hm0) (es_op (od_rI (C := CDivW) (g := fun i j => i / j) (wide_div (b := 40) (by decide : (0 : Int) < 16) (by decide) (by decide) (by decide))) (es_var (i := 2) rfl (.int _)) es_int) (es_var (i := 1) rfl (.int _))).at fun v7 H7 e7 hv7 => ?_
    cases hv7
    exact q _ _ (m4.trans (Mo.of ((e5.trans e6).trans e7))) ⟨_, y, z + 1, e7 _ _ (e6 _ _ hb5), hy0, hy1, by omega, by omega⟩ (pos hm0).1 (pos hm0).2
end
end K83
namespace K83
open PySem PySem.Spec PyProof.Rows L2
/-! ### texts that are cut -/
theorem cost_cons (p : Nat) (w : Wd) (ws : List Wd) : cost p (w :: ws) = cw p w + cost p ws := by simp [cost]
theorem cost_flush {p : Nat} {cur : Wd} (h : 40 ∉ cur) : cost p (flush cur) = if cur = [] then 0 else 1 := by
  unfold flush
  by_cases e : cur = []
  · rw [if_pos e, if_pos e]; rfl
  · rw [if_neg e, if_neg e]
    have : cur ≠ wOpn := fun z => h (by rw [z]; decide)
    simp [cost, cw, this]
theorem tk_low {p : Nat} : ∀ (l : List Nat) (cur : Wd), 40 ∉ cur → cost p (flush cur) ≤ cost p (tk cur l)
  | [], cur, _ => Nat.le_refl _
  | c :: r, cur, h => by
    unfold tk
    split
    · rw [cost_app]; omega
    · split
      · rw [cost_app]; omega
      · rename_i h1 h2
        have h3 : 40 ∉ cur ++ [c] := by
          simp
          exact ⟨h, fun z => h2 (.inl z.symm)⟩
        have := tk_low (p := p) r (cur ++ [c]) h3
        rw [cost_flush h3, if_neg (by simp)] at this
        rw [cost_flush h]
        split <;> omega
theorem tk_take {p : Nat} : ∀ (l : List Nat) (cur : Wd) (k : Nat), 40 ∉ cur → cost p (tk cur (l.take k)) ≤ cost p (tk cur l)
  | [], cur, k, _ => by rw [List.take_nil]; exact Nat.le_refl _
  | c :: r, cur, 0, h => by
    rw [List.take_zero]
    exact tk_low (c :: r) cur h
  | c :: r, cur, k + 1, h => by
    rw [List.take_succ_cons]
    have i0 := tk_take (p := p) r [] k (by simp)
    unfold tk
    split
    · rw [cost_app, cost_app]; omega
    · split
      · rw [cost_app, cost_app, cost_cons, cost_cons]; omega
      · rename_i h1 h2
        exact tk_take r (cur ++ [c]) k (by
          simp
          exact ⟨h, fun z => h2 (.inl z.symm)⟩)
theorem cost_one : ∀ ws : List Wd, cost 1 ws = ws.length
  | [] => rfl
  | w :: ws => by
    rw [cost_cons, cost_one ws, List.length_cons]
    unfold cw
    split <;> omega
theorem toks_take (l : List Nat) (k : Nat) : cost 3 (toks (l.take k)) ≤ cost 3 (toks l) ∧ cost 0 (toks (l.take k)) ≤ cost 0 (toks l) := by
  exact ⟨tk_take l [] k (by simp), tk_take l [] k (by simp)⟩
theorem pre10 (c : Nat) (r : List Nat) : TL.pre [10] (c :: r) = decide (c = 10) := pre1 c r 10
theorem spl_10 (acc r : List Nat) : TL.spl [10] 0 acc (10 :: r) = acc :: TL.spl [10] 0 [] r := TL.spl_hit (by rw [pre10]; rfl)
theorem spl_n10 {c : Nat} (acc r : List Nat) (h : c ≠ 10) : TL.spl [10] 0 acc (c :: r) = TL.spl [10] 0 (acc ++ [c]) r := TL.spl_miss (by rw [pre10]; exact decide_eq_false h)
theorem spl_head : ∀ (l acc : List Nat), ∃ y ys, TL.spl [10] 0 acc l = y :: ys ∧ ∃ z, y = acc ++ z
  | [], acc => ⟨acc, [], TL.spl_nil _ _ _, [], by simp⟩
  | c :: r, acc => by
    by_cases h : c = 10
    · subst h
      exact ⟨acc, _, spl_10 acc r, [], by simp⟩
    · obtain ⟨y, ys, h1, z, h2⟩ := spl_head r (acc ++ [c])
      exact ⟨y, ys, by rw [spl_n10 acc r h]; exact h1, c :: z, by rw [h2]; simp⟩
theorem spl_take : ∀ (l acc : List Nat) (k : Nat), (TL.spl [10] 0 acc (l.take k)).length ≤ (TL.spl [10] 0 acc l).length ∧ ∀ x ∈ TL.spl [10] 0 acc (l.take k), ∃ y ∈ TL.spl [10] 0 acc l, ∃ j, x = y.take j
  | [], acc, k => by
    rw [List.take_nil]
    exact ⟨Nat.le_refl _, fun x hx => ⟨x, hx, x.length, by rw [List.take_length]⟩⟩
  | c :: r, acc, 0 => by
    rw [List.take_zero, TL.spl_nil]
    obtain ⟨y, ys, h1, z, h2⟩ := spl_head (c :: r) acc
    rw [h1]
    refine ⟨by simp, fun x hx => ⟨y, List.mem_cons_self, acc.length, ?_⟩⟩
    rw [List.mem_singleton.mp hx, h2, List.take_left]
  | c :: r, acc, k + 1 => by
    rw [List.take_succ_cons]
    by_cases h : c = 10
    · subst h
      rw [spl_10, spl_10]
      obtain ⟨i1, i2⟩ := spl_take r [] k
      refine ⟨by simp only [List.length_cons]; omega, fun x hx => ?_⟩
      rcases List.mem_cons.mp hx with rfl | hx
      · exact ⟨x, List.mem_cons_self, x.length, by rw [List.take_length]⟩
      · obtain ⟨y, h1, h2⟩ := i2 x hx
        exact ⟨y, List.mem_cons_of_mem _ h1, h2⟩
    · rw [spl_n10 _ _ h, spl_n10 _ _ h]
      exact spl_take r (acc ++ [c]) k
theorem spl_mem : ∀ (l acc : List Nat), ∀ x ∈ TL.spl [10] 0 acc l, x.length ≤ acc.length + l.length
  | [], acc => fun x hx => by
    rw [TL.spl_nil] at hx
    rw [List.mem_singleton.mp hx]
    omega
  | c :: r, acc => fun x hx => by
    by_cases h : c = 10
    · subst h
      rw [spl_10] at hx
      rcases List.mem_cons.mp hx with rfl | hx
      · omega
      · have := spl_mem r [] x hx
        simp only [List.length_cons, List.length_nil] at this ⊢
        omega
    · rw [spl_n10 _ _ h] at hx
      have := spl_mem r (acc ++ [c]) x hx
      simp only [List.length_append, List.length_cons, List.length_nil] at this ⊢
      omega
/-- signs that are written -/
def okC (c : Nat) : Prop := c ≤ 122 ∧ c ≠ 78
structure GoodL (l : Wd) : Prop where
  few : cost 0 (toks l) ≤ 105
  low : cost 3 (toks l) ≤ 205
  sg : ∀ c ∈ l, okC c
structure GoodTx (t : List Nat) : Prop where
  many : (linesOf t).length ≤ 100
  line : ∀ l ∈ linesOf t, GoodL l
theorem tk_signs : ∀ (l : List Nat) (cur : Wd), (∀ c ∈ cur, okC c) → (∀ c ∈ l, okC c) → ∀ w ∈ tk cur l, ∀ c ∈ w, okC c
  | [], cur, h, _ => fun w hw => by
    unfold tk flush at hw
    split at hw
    · cases hw
    · rw [List.mem_singleton.mp hw]; exact h
  | d :: r, cur, h, hl => fun w hw => by
    have fl : ∀ w ∈ flush cur, ∀ c ∈ w, okC c := fun w hw => by
      unfold flush at hw
      split at hw
      · cases hw
      · rw [List.mem_singleton.mp hw]; exact h
    have hr : ∀ c ∈ r, okC c := fun c hc => hl c (List.mem_cons_of_mem _ hc)
    have hd : okC d := hl d List.mem_cons_self
    unfold tk at hw
    split at hw
    · rcases List.mem_append.mp hw with h1 | h1
      · exact fl w h1
      · exact tk_signs r [] (by simp) hr w h1
    · split at hw
      · rcases List.mem_append.mp hw with h1 | h1
        · exact fl w h1
        · rcases List.mem_cons.mp h1 with h1 | h1
          · rw [h1]
            intro c hc
            rw [List.mem_singleton.mp hc]
            exact hd
          · exact tk_signs r [] (by simp) hr w h1
      · exact tk_signs r (cur ++ [d]) (fun c hc => by
          rcases List.mem_append.mp hc with h1 | h1
          · exact h c h1
          · rw [List.mem_singleton.mp h1]; exact hd) hr w hw
theorem linesOf_take {t : List Nat} {k : Nat} : (linesOf (t.take k)).length ≤ (linesOf t).length ∧ ∀ x ∈ linesOf (t.take k), ∃ y ∈ linesOf t, ∃ j, x = y.take j := by
  unfold linesOf
  by_cases h : t.take k = []
  · rw [if_pos h]
    exact ⟨Nat.zero_le _, fun x hx => by cases hx⟩
  · have h2 : t ≠ [] := by rintro rfl; exact h List.take_nil
    rw [if_neg h, if_neg h2]
    exact spl_take t [] k
theorem goodTx_take {t : List Nat} (h : GoodTx t) {k : Nat} (hk : k ≤ 4000) : GoodT2 (t.take k) := by
  obtain ⟨i1, i2⟩ := linesOf_take (t := t) (k := k)
  have hl : (t.take k).length ≤ 4000 := by rw [List.length_take]; omega
  have ll : ∀ x ∈ linesOf (t.take k), x.length ≤ 4000 := fun x hx => by
    unfold linesOf at hx
    split at hx
    · cases hx
    · have := spl_mem (t.take k) [] x hx
      simp only [List.length_nil] at this
      omega
  have key : ∀ x ∈ linesOf (t.take k), GoodL x := fun x hx => by
    obtain ⟨y, hy, j, rfl⟩ := i2 x hx
    obtain ⟨h1, h2, h3⟩ := h.line y hy
    obtain ⟨t1, t2⟩ := toks_take y j
    exact ⟨by omega, by omega, fun c hc => h3 c (List.mem_of_mem_take hc)⟩
  refine ⟨⟨hl, Nat.le_trans i1 h.many, fun x hx => ⟨ll x hx, ?_, ?_⟩⟩, fun x hx => ⟨?_, fun w hw => ?_⟩⟩
  · exact Nat.le_trans (key x hx).few (by decide)
  · exact Nat.lt_of_le_of_lt (key x hx).low (by decide)
  · exact Nat.le_trans (len_cost _) (Nat.le_trans (key x hx).low (by decide))
  · have hs := tk_signs x [] (by simp) (key x hx).sg w hw
    exact ⟨Nat.le_trans (toks_mem hw) (ll x hx), fun c hc => Nat.lt_of_le_of_lt (hs c hc).1 (by decide), fun hc => (hs 78 hc).2 rfl⟩
end K83
namespace K83
open PySem PySem.Spec PyProof.Rows L2
/-! ### words that are joined -/
def safe (c : Nat) : Bool := decide (33 ≤ c) && (decide (c ≤ 122) && (decide (c ≠ 40) && (decide (c ≠ 41) && decide (c ≠ 78))))
def okWd (w : Wd) : Bool := (decide (w = wOpn) || (decide (w = wCls) || (decide (w ≠ []) && w.all safe))) && decide (w.length ≤ 6)
def sp (n : Nat) : List Nat := List.replicate n 32
theorem tk_safe : ∀ (w cur r : Wd), w.all safe = true → tk cur (w ++ r) = tk (cur ++ w) r
  | [], cur, r, _ => by simp
  | c :: w, cur, r, h => by
    simp only [List.all_cons, Bool.and_eq_true] at h
    have hc := h.1
    simp [safe] at hc
    rw [List.cons_append]
    conv => lhs; unfold tk
    rw [if_neg (by omega), if_neg (by omega), tk_safe w (cur ++ [c]) r h.2]
    simp
theorem tk_32 (cur : Wd) (r : List Nat) : tk cur (32 :: r) = flush cur ++ tk [] r := by
  conv => lhs; unfold tk
  rw [if_pos rfl]
theorem tk_par {c : Nat} (h : c = 40 ∨ c = 41) (cur : Wd) (r : List Nat) : tk cur (c :: r) = flush cur ++ [c] :: tk [] r := by
  conv => lhs; unfold tk
  rw [if_neg (by omega), if_pos h]
theorem tk_sp : ∀ (n : Nat) (r : List Nat), tk [] (sp n ++ r) = tk [] r
  | 0, r => rfl
  | n + 1, r => by
    show tk [] (32 :: (sp n ++ r)) = _
    rw [tk_32, tk_sp n r]
    rfl
theorem okWd_inv {w : Wd} (h : okWd w = true) : (w = wOpn ∨ w = wCls ∨ (w ≠ [] ∧ w.all safe = true)) ∧ w.length ≤ 6 := by
  unfold okWd at h
  simp only [Bool.and_eq_true, Bool.or_eq_true, decide_eq_true_eq] at h
  exact h
theorem tk_word {w : Wd} (h : okWd w = true) (r : List Nat) : tk [] (w ++ 32 :: r) = w :: tk [] r ∧ tk [] w = [w] := by
  obtain ⟨rfl | rfl | ⟨h1, h2⟩, _⟩ := okWd_inv h
  · constructor
    · show tk [] (40 :: 32 :: r) = _
      rw [tk_par (.inl rfl), tk_32]
      rfl
    · rfl
  · constructor
    · show tk [] (41 :: 32 :: r) = _
      rw [tk_par (.inr rfl), tk_32]
      rfl
    · rfl
  · have hf : flush w = [w] := by unfold flush; rw [if_neg h1]
    constructor
    · rw [tk_safe w [] _ h2, List.nil_append]
      conv => lhs; unfold tk
      rw [if_pos rfl, hf]
      rfl
    · have := tk_safe w [] [] h2
      rw [List.append_nil, List.nil_append] at this
      rw [this]
      exact hf
theorem tk_join {n : Nat} (hn : 1 ≤ n) (b : Nat) : ∀ ws : List Wd, (∀ w ∈ ws, okWd w = true) → tk [] (TL.joinL (sp n) ws ++ sp b) = ws
  | [], _ => by
    show tk [] (sp b) = []
    have := tk_sp b []
    rw [List.append_nil] at this
    rw [this]
    rfl
  | [w], h => by
    show tk [] (w ++ sp b) = [w]
    have hw := h w List.mem_cons_self
    cases b with
    | zero => show tk [] (w ++ []) = _; rw [List.append_nil]; exact (tk_word hw []).2
    | succ b =>
      show tk [] (w ++ 32 :: sp b) = _
      rw [(tk_word hw (sp b)).1]
      have := tk_sp b []
      rw [List.append_nil] at this
      rw [this]
      rfl
  | w :: v :: ws, h => by
    have ih := tk_join hn b (v :: ws) fun u hu => h u (List.mem_cons_of_mem _ hu)
    have hw := h w List.mem_cons_self
    show tk [] ((w ++ (sp n ++ TL.joinL (sp n) (v :: ws))) ++ sp b) = _
    obtain ⟨m, rfl⟩ : ∃ m, n = m + 1 := ⟨n - 1, by omega⟩
    have e : (w ++ (sp (m + 1) ++ TL.joinL (sp (m + 1)) (v :: ws))) ++ sp b = w ++ 32 :: (sp m ++ (TL.joinL (sp (m + 1)) (v :: ws) ++ sp b)) := by
      show (w ++ ((32 :: sp m) ++ _)) ++ _ = _
      simp
    rw [e, (tk_word hw _).1, tk_sp, ih]
/-- a line's text -/
def lineT (a n b : Nat) (ws : List Wd) : List Nat := sp a ++ (TL.joinL (sp n) ws ++ sp b)
theorem toks_line {a n b : Nat} {ws : List Wd} (hn : 1 ≤ n) (h : ∀ w ∈ ws, okWd w = true) : toks (lineT a n b ws) = ws := by
  unfold toks lineT
  rw [tk_sp, tk_join hn b ws h]
def LnG (ws : List Wd) : Prop := (∀ w ∈ ws, okWd w = true) ∧ cost 0 ws ≤ 105 ∧ cost 3 ws ≤ 205
def okC' (c : Nat) : Prop := okC c ∧ c ≠ 10
theorem sp_ok {n c : Nat} (h : c ∈ sp n) : okC' c := by
  rw [List.eq_of_mem_replicate h]
  exact ⟨⟨by decide, by decide⟩, by decide⟩
theorem word_ok {w : Wd} (h : okWd w = true) {c : Nat} (hc : c ∈ w) : okC' c := by
  obtain ⟨rfl | rfl | ⟨h1, h2⟩, _⟩ := okWd_inv h
  · rw [List.mem_singleton.mp hc]; exact ⟨⟨by decide, by decide⟩, by decide⟩
  · rw [List.mem_singleton.mp hc]; exact ⟨⟨by decide, by decide⟩, by decide⟩
  · have := List.all_eq_true.mp h2 c hc
    simp [safe] at this
    exact ⟨⟨this.2.1, this.2.2.2.2⟩, by omega⟩
theorem join_ok {n : Nat} : ∀ {ws : List Wd}, (∀ w ∈ ws, okWd w = true) → ∀ c ∈ TL.joinL (sp n) ws, okC' c
  | [], _ => fun c hc => by cases hc
  | [w], h => fun c hc => word_ok (h w List.mem_cons_self) hc
  | w :: v :: ws, h => fun c hc => by
    have hc : c ∈ w ++ (sp n ++ TL.joinL (sp n) (v :: ws)) := hc
    rcases List.mem_append.mp hc with h1 | h1
    · exact word_ok (h w List.mem_cons_self) h1
    · rcases List.mem_append.mp h1 with h2 | h2
      · exact sp_ok h2
      · exact join_ok (fun u hu => h u (List.mem_cons_of_mem _ hu)) c h2
theorem line_ok {a n b : Nat} {ws : List Wd} (h : ∀ w ∈ ws, okWd w = true) : ∀ c ∈ lineT a n b ws, okC' c := fun c hc => by
  unfold lineT at hc
  rcases List.mem_append.mp hc with h1 | h1
  · exact sp_ok h1
  · rcases List.mem_append.mp h1 with h2 | h2
    · exact join_ok h c h2
    · exact sp_ok h2
theorem join_len {n : Nat} : ∀ {ws : List Wd}, (∀ w ∈ ws, okWd w = true) → (TL.joinL (sp n) ws).length ≤ ws.length * (n + 6)
  | [], _ => Nat.zero_le _
  | [w], h => by
    have := (okWd_inv (h w List.mem_cons_self)).2
    show w.length ≤ 1 * (n + 6)
    omega
  | w :: v :: ws, h => by
    have ih := join_len (n := n) fun u hu => h u (List.mem_cons_of_mem w hu)
    have := (okWd_inv (h w List.mem_cons_self)).2
    show (w ++ (sp n ++ TL.joinL (sp n) (v :: ws))).length ≤ _
    rw [List.length_append, List.length_append, List.length_cons, Nat.succ_mul]
    have : (sp n).length = n := List.length_replicate
    omega
/-- a line that is written -/
def IsLn (l : List Nat) : Prop := ∃ a n b ws, LnG ws ∧ 1 ≤ n ∧ n ≤ 6 ∧ a ≤ 4 ∧ b ≤ 4 ∧ l = lineT a n b ws
theorem IsLn.len {l : List Nat} (h : IsLn l) : l.length ≤ 2468 := by
  obtain ⟨a, n, b, ws, ⟨h1, _, h2⟩, _, hn, ha, hb, rfl⟩ := h
  have := join_len (n := n) h1
  have h3 : ws.length * (n + 6) ≤ 205 * 12 := Nat.mul_le_mul (Nat.le_trans (len_cost ws) h2) (by omega)
  unfold lineT
  rw [List.length_append, List.length_append]
  have s1 : (sp a).length = a := List.length_replicate
  have s2 : (sp b).length = b := List.length_replicate
  omega
theorem IsLn.good {l : List Nat} (h : IsLn l) : GoodL l ∧ 10 ∉ l := by
  obtain ⟨a, n, b, ws, ⟨h1, h2, h3⟩, h4, _, _, _, rfl⟩ := h
  refine ⟨⟨by rw [toks_line h4 h1]; exact h2, by rw [toks_line h4 h1]; exact h3, fun c hc => (line_ok h1 c hc).1⟩, fun hc => (line_ok h1 10 hc).2 rfl⟩
theorem text_good {ls : List Wd} (h : ∀ l ∈ ls, IsLn l) (hl : ls.length ≤ 100) : GoodTx (TL.joinL [10] ls) := by
  have e : linesOf (TL.joinL [10] ls) = ls ∨ linesOf (TL.joinL [10] ls) = [] := by
    unfold linesOf
    split
    · exact .inr rfl
    · rename_i hne
      have : ls ≠ [] := by rintro rfl; exact hne rfl
      exact .inl (TL.spl_join (s := 10) (S := []) this fun p hp => (h p hp).good.2)
  rcases e with e | e
  · exact ⟨by rw [e]; exact hl, fun l hl => (h l (by rw [e] at hl; exact hl)).good.1⟩
  · exact ⟨by rw [e]; exact Nat.zero_le _, fun l hl => by rw [e] at hl; cases hl⟩
theorem text_len : ∀ {ls : List Wd}, (∀ l ∈ ls, IsLn l) → (TL.joinL [10] ls).length ≤ ls.length * 2469
  | [], _ => Nat.zero_le _
  | [l], h => by
    have := (h l List.mem_cons_self).len
    show l.length ≤ 1 * 2469
    omega
  | l :: m :: ls, h => by
    have ih := text_len fun u hu => h u (List.mem_cons_of_mem l hu)
    have := (h l List.mem_cons_self).len
    show (l ++ ([10] ++ TL.joinL [10] (m :: ls))).length ≤ _
    rw [List.length_append, List.length_append]
    have h1 : ([10] : List Nat).length = 1 := rfl
    have h2 : (l :: m :: ls).length = (m :: ls).length + 1 := rfl
    rw [h1, h2, Nat.succ_mul]
    omega
/-- only blanks -/
theorem blank_good (n : Nat) : GoodTx (sp n) := by
  have : IsLn (sp n) → GoodTx (sp n) := fun h => text_good (ls := [sp n]) (fun l hl => by rw [List.mem_singleton.mp hl]; exact h) (by simp)
  have e : ∀ l ∈ linesOf (sp n), l = sp n := fun l hl => by
    unfold linesOf at hl
    split at hl
    · cases hl
    · have := TL.spl_join (s := 10) (S := []) (parts := [sp n]) (by simp) (fun p hp hc => by
        rw [List.mem_singleton.mp hp] at hc
        have := List.eq_of_mem_replicate hc
        exact absurd this (by decide))
      have h2 : TL.spl [10] 0 [] (sp n) = [sp n] := this
      rw [h2] at hl
      exact List.mem_singleton.mp hl
  have ht : toks (sp n) = [] := by
    have := tk_sp n []
    rw [List.append_nil] at this
    exact this
  refine ⟨?_, fun l hl => ?_⟩
  · unfold linesOf
    split
    · exact Nat.zero_le _
    · have := TL.spl_join (s := 10) (S := []) (parts := [sp n]) (by simp) (fun p hp hc => by
        rw [List.mem_singleton.mp hp] at hc
        have := List.eq_of_mem_replicate hc
        exact absurd this (by decide))
      have h2 : TL.spl [10] 0 [] (sp n) = [sp n] := this
      rw [h2]
      simp
  · rw [e l hl]
    exact ⟨by rw [ht]; decide, by rw [ht]; decide, fun c hc => (sp_ok hc).1⟩
end K83
namespace K83
open PySem PySem.Spec PyProof.Rows L2
open C8 (Cal pe_c CalAt)
/-! ### data that can't be the box -/
mutual
def noBox : PyData → Bool
  | .list [.int _, .int _, .int _] => false
  | .list ds => noBoxs ds
  | .tuple ds => noBoxs ds
  | _ => true
def noBoxs : List PyData → Bool
  | [] => true
  | d :: ds => noBox d && noBoxs ds
end
section
variable {K : PySem.W.Frag} {H H' : Hp} {b : Addr} {n : Nat}
theorem Bx.tk (h : Bx H b n) (e : Mo b H H') : TK K H H' := by
  obtain ⟨x, y, z, hb, _⟩ := h
  exact e.tk hb
theorem noBox_list {ds : List PyData} (h : noBox (.list ds) = true) : noBoxs ds = true ∧ ∀ x y z, ds ≠ [.int x, .int y, .int z] := by
  unfold noBox at h
  split at h
  · cases h
  · rename_i ds' hne heq
    cases heq
    exact ⟨h, fun x y z e => hne x y z e⟩
  · rename_i heq; cases heq
  · rename_i h1 h2 heq
    exact absurd rfl (h2 _)
mutual
theorem Dt.bx (hB : Bx H b n) (e : Mo b H H') : ∀ {v : V} {d : PyData}, noBox d = true → Dt K H v d → Dt K H' v d
  | _, _, _, .non => .non
  | _, _, _, .bl b => .bl b
  | _, _, _, .int i => .int i
  | _, _, _, .str x => .str x
  | _, _, f, .lst h r => by
    obtain ⟨f1, f2⟩ := noBox_list f
    refine .lst (e _ _ (fun z => ?_) h) (r.bx hB e f1)
    obtain ⟨x, y, w, hb, _⟩ := hB
    rw [z, hb] at h
    cases h
    cases r with
    | cons h1 r =>
      cases r with
      | cons h2 r =>
        cases r with
        | cons h3 r =>
          cases r
          cases h1; cases h2; cases h3
          exact f2 _ _ _ rfl
  | _, _, f, .tup h r => .tup (hB.tk e _ _ h) (r.bx hB e (by simpa [noBox] using f))
theorem DtA.bx (hB : Bx H b n) (e : Mo b H H') : ∀ {vs : List V} {ds : List PyData}, noBoxs ds = true → DtA K H vs ds → DtA K H' vs ds
  | _, _, _, .nil => .nil
  | _, _, f, .cons h r => by
    have f' := f
    simp only [noBoxs, Bool.and_eq_true] at f'
    exact .cons (h.bx hB e f'.1) (r.bx hB e f'.2)
end
theorem noBoxs_ws : ∀ ws : List Wd, noBoxs (wsD ws) = true
  | [] => rfl
  | w :: ws => by
    have := noBoxs_ws ws
    simp only [wsD, List.map_cons, noBoxs] at this ⊢
    rw [this]
    rfl
theorem noBox_ws (ws : List Wd) : noBox (.list (wsD ws)) = true := by
  unfold noBox
  split
  · rename_i heq
    cases ws with
    | nil => cases heq
    | cons a r => cases heq
  · rename_i heq
    cases heq
    exact noBoxs_ws ws
  · rename_i heq
    cases heq
  · rfl
/-- words as they stand when the box is asked -/
theorem ws_bx {v : V} {ws : List Wd} (hB : Bx H b n) (e : Mo b H H') (h : Dt K H v (.list (wsD ws))) : Dt K H' v (.list (wsD ws)) := h.bx hB e (noBox_ws ws)
/-- _law_take(box, m) -/
theorem at_take {σ : L2.St} {ti : TE} {m : Int} {E : XK} {Q : VK} (hs : σ[0]? = some (some (.ref b))) (hB : Bx H b n) (hn : n ≤ 1000000) (h0 : 0 < m) (h1 : m < 1000000) (hi : Es K ti σ H (.int m))
    (q : ∀ (r : Nat) H2, Mo b H H2 → Bx H2 b (n + 1) → (r : Int) < m → Q (.int (r : Nat)) H2) : tCall (spTake K) [] E (tCons (tVar 0) (tCons ti tNil)) σ H Q := by
  refine ⟨_, hs, hi.at fun v H1 e1 hv => ?_⟩
  cases hv
  refine ⟨b, m, n, rfl, hB.same e1, hn, h0, h1, fun r H2 m2 B2 r0 r1 => ?_⟩
  obtain ⟨k, rfl⟩ : ∃ k : Nat, r = (k : Int) := ⟨r.toNat, by omega⟩
  exact q k H2 ((Mo.of e1).trans m2) B2 r1
end
end K83
namespace K83
open PySem PySem.Spec PyProof.Rows L2
open C8 (Cal pe_c CalAt)
section
variable {P : Program} {w : World} {K : PySem.W.Frag} {mg : Str → Option Value} {base : Heap}
/-! ### _law_leaf_word -/
def rJoinK (K : PySem.W.Frag) : V → List V → Hp → VK → Prop := fun x xs H Q => ∃ a p, ∃ ys : List Str, x = .str a ∧ xs = [.ref p] ∧ (SqL K H p (ys.map V.str) ∨ SqT K H p (ys.map V.str)) ∧ (ys.map (·.length)).sum + ys.length * a.length ≤ 16777216 ∧ Q (.str (Txt.join a ys)) H
theorem mt_joinK {X : Cx} {K : PySem.W.Frag} (hK : X.K = K := by rfl) : MtR X "str.join" (rJoinK K) := by
  subst hK
  exact mt_join
/-- what is drawn of a name: a single word that is no bracket -/
def leafOk (w : Wd) : Prop := okWd w = true ∧ w ≠ wOpn
/-- names drawn so far -/
def lowW (w : Wd) : Prop := (∀ c ∈ w, 97 ≤ c ∧ c ≤ 122) ∧ 1 ≤ w.length ∧ w.length ≤ 3
def arI (ar : List Nat) : List V := ar.map fun n : Nat => V.int (n : Int)
def spLeaf (K : PySem.W.Frag) : Sp := fun vs H Q _ => ∃ (b a : Addr) (n : Nat) (ar : List Nat), vs = [.ref b, .ref a] ∧ Bx H b n ∧ n + 12 ≤ 1000000 ∧ a ≠ b ∧ H a = some (.lst (arI ar)) ∧ (∀ k ∈ ar, k < 1000) ∧ ar.length < 1000 ∧
  ∀ u H2, leafOk u → Mo b H H2 → Bx H2 b (n + 12) → Q (wV u) H2
abbrev N_law_leaf_word : List Str := ["box", "around", "small", "name", "way", "some", "turn"]
abbrev P_law_leaf_word : List Str := ["box", "around"]
theorem sc_law_leaf_word : FnScope N_law_leaf_word P_law_leaf_word (defScope s_law_leaf_word) := ⟨rfl, rfl, rfl, by decide +kernel, rfl, by decide +kernel, by decide +kernel⟩
theorem lay_arI (ar : List Nat) : PyData.canLay0 (.list (ar.map fun n : Nat => PyData.int (n : Int))) = true := by
  show PyData.canLayAll0 _ = true
  refine lay_all fun d hd => ?_
  obtain ⟨n, _, rfl⟩ := List.mem_map.mp hd
  unfold PyData.canLay0
  rfl
theorem dt_arI {H : Hp} {a : Addr} {ar : List Nat} (h : H a = some (.lst (arI ar))) : Dt K H (.ref a) (.list (ar.map fun n : Nat => PyData.int (n : Int))) := .lst h (DtA.map (fun n => .int _) ar)
theorem at_asg {te : TE} {g : TG} {D : L2.Ends} {σ : L2.St} {H : Hp} (h : te σ H fun x H1 => g x σ H1 D.nx) : tAsg te g D σ H := h
theorem at_op {r : R2} {ta tb : TE} {σ : L2.St} {H : Hp} {Q : VK} (h : ta σ H fun x H1 => tb σ H1 fun y H2 => r x y H2 Q) : tOp r ta tb σ H Q := h
theorem at_rng {ta : TE} {σ : L2.St} {H : Hp} {R : It → Hp → Prop} (h : ta σ H fun v H1 => ∃ j : Int, [v] = [.int j] ∧ -(2 ^ 62) ≤ j ∧ j < 2 ^ 62 ∧ R (Itr 0 j.toNat) H1) : iRng1 (tCons ta tNil) σ H R := h
theorem at_lc {wi : TI} {g : TG} {tt : TT} {te : TE} {vs : List Nat} {σ : L2.St} {H : Hp} {Q : VK} (h : wi σ H fun J H1 => ∀ D, H1 D = none → ∃ W : Nat → Nat → Hp → Prop, (∃ m, W 0 m (upd H1 D (.lst []))) ∧ ∀ i m H, W i m H →
  (J.stop i H ∧ Q (.ref D) H) ∨ (J.go i H ∧ ∃ Nx : Hp → Prop, (∀ H', Nx H' → ∃ m', m' < m ∧ W (i + 1) m' H') ∧ ∀ x H', J.yld i H x H' → g x (wipe σ vs) H' fun σ2 H2 => wipe σ2 vs = wipe σ vs ∧ tt σ2 H2 fun b H3 =>
    if b = true then te σ2 H3 fun y H4 => ∃ acc, H4 D = some (.lst acc) ∧ acc.length < sizeLine ∧ Nx (upd H4 D (.lst (acc ++ [y]))) else Nx H3)) : tLc wi g tt te vs σ H Q := h
theorem at_ret {te : TE} {D : L2.Ends} {σ : L2.St} {H : Hp} (h : te σ H D.rt) : tRet te D σ H := h
theorem joinL_nil : ∀ l : List Wd, TL.joinL [] l = l.flatten
  | [] => rfl
  | [a] => by simp [TL.joinL]
  | a :: c :: q => by
    show a ++ ([] ++ TL.joinL [] (c :: q)) = _
    rw [joinL_nil (c :: q)]
    simp
theorem low_leaf {w : Wd} {pre suf : Wd} (h : lowW w) (hp : pre.all safe = true) (hs : suf.all safe = true) (hl : pre.length + suf.length ≤ 3) : leafOk (pre ++ (w ++ suf)) := by
  obtain ⟨h1, h2, h3⟩ := h
  have hw : w.all safe = true := List.all_eq_true.mpr fun c hc => by
    have := h1 c hc
    simp [safe]
    omega
  have hall : (pre ++ (w ++ suf)).all safe = true := by rw [List.all_append, List.all_append, hp, hw, hs]; rfl
  have hne : pre ++ (w ++ suf) ≠ [] := by
    intro z
    have h9 : pre.length + (w.length + suf.length) = 0 := by rw [← List.length_append, ← List.length_append, z]; rfl
    omega
  refine ⟨?_, fun z => ?_⟩
  · unfold okWd
    rw [decide_eq_true hne, hall]
    have : (pre ++ (w ++ suf)).length ≤ 6 := by simp; omega
    rw [decide_eq_true this]
    simp
  · rw [z] at hall
    exact absurd hall (by decide)
theorem safe_leaf {w : Wd} (h : w.all safe = true) (hne : w ≠ []) (hl : w.length ≤ 6) : leafOk w := by
  refine ⟨?_, fun z => ?_⟩
  · unfold okWd
    rw [decide_eq_true hne, h, decide_eq_true hl]
    simp
  · rw [z] at h
    exact absurd h (by decide)
theorem num_small : ∀ n < 1000, (TL.numL n).all safe = true ∧ (TL.numL n).length ≤ 3 := by decide +kernel
theorem num_7 : ∀ n < 7, (TL.numL n).length = 1 := by decide +kernel
theorem small_get : ∀ r < 26, wSmall[r]? = some (97 + r) := by decide
def Ones (cs : List Wd) : Prop := ∀ w ∈ cs, ∃ c, w = [c] ∧ 97 ≤ c ∧ c ≤ 122
theorem ones_sum : ∀ {cs : List Wd}, Ones cs → ((cs.map S).map (·.length)).sum = cs.length
  | [], _ => rfl
  | w :: cs, h => by
    obtain ⟨c, rfl, _⟩ := h _ (List.mem_cons_self ..)
    have := ones_sum (cs := cs) fun w hw => h w (List.mem_cons_of_mem _ hw)
    simp only [List.map_cons, List.sum_cons, List.length_cons, this, S_length]
    simp
    omega
theorem ones_len : ∀ {cs : List Wd}, Ones cs → cs.flatten.length = cs.length
  | [], _ => rfl
  | w :: cs, h => by
    obtain ⟨c, rfl, _⟩ := h _ (List.mem_cons_self ..)
    have := ones_len (cs := cs) fun w hw => h w (List.mem_cons_of_mem _ hw)
    rw [List.flatten_cons, List.length_append, this]
    simp
    omega
theorem ones_low {cs : List Wd} (h : Ones cs) (h1 : 1 ≤ cs.length) (h3 : cs.length ≤ 3) : lowW cs.flatten := by
  refine ⟨fun c hc => ?_, by rw [ones_len h]; exact h1, by rw [ones_len h]; exact h3⟩
  obtain ⟨w, hw, hcw⟩ := List.mem_flatten.mp hc
  obtain ⟨x, rfl, g⟩ := h w hw
  rw [List.mem_singleton] at hcw
  rw [hcw]
  exact g
theorem wV_map (cs : List Wd) : (cs.map S).map V.str = cs.map wV := by rw [List.map_map]; rfl
/-- pre + str(_law_take(box, m)) -/
theorem at_strT {σ : L2.St} {H : Hp} {b : Addr} {n : Nat} {te : TE} {pre : Wd} {m : Int} {E : XK} {Q : VK} (hs : σ[0]? = some (some (.ref b))) (hB : Bx H b n) (hn : n ≤ 1000000) (h0 : 0 < m) (h1 : m < 8) (hp : Es K te σ H (wD pre)) (hl : pre.length ≤ 5)
    (q : ∀ (r : Nat) H2, Mo b H H2 → Bx H2 b (n + 1) → r < 7 → Q (wV (pre ++ TL.numL r)) H2) : tOp rAddS te (tCB rStr (tCons (tCall (spTake K) [] E (tCons (tVar 0) (tCons (tC (.int m)) tNil))) tNil)) σ H Q := by
  refine at_op (hp.at fun v H1 e1 hv => ?_)
  cases hv
  refine at_cb1 (at_take (K := K) hs (hB.same e1) hn h0 (by omega) es_int fun r H2 m2 B2 hr => ?_)
  have hr7 : r < 7 := by omega
  have := SX.num_S r
  refine .inl ⟨_, rfl, log_small (by omega), ?_⟩
  rw [show (toString ((r : Nat) : Int) : Str) = S (TL.numL r) from this]
  refine ⟨_, _, rfl, rfl, ?_, ?_⟩
  · rw [S_length, S_length, num_7 r hr7]
    exact len_small (by omega)
  · rw [SX.S_cat]
    exact q r H2 ((Mo.of e1).trans m2) B2 hr7
theorem at_lst {t : TA} {σ : L2.St} {H : Hp} {Q : VK} (h : t σ H fun xs H1 => xs.length ≤ sizeLine ∧ ∀ p, H1 p = none → Q (.ref p) (upd H1 p (.lst xs))) : tLst t σ H Q := h
def wNun : Wd := [110, 117, 110]
def ren (w : Wd) : Wd := if [wAll, wFun].contains w = true then wNun else w
theorem ren_low {w : Wd} (h : lowW w) : lowW (ren w) := by
  unfold ren
  split
  · exact ⟨by decide, by decide, by decide⟩
  · exact h
theorem c_law_leaf_word (T : Tx w K mg) : Cal P w K mg base 2 "_law_leaf_word" (spLeaf K) [] := by
  obtain ⟨fd, F⟩ := T.d_law_leaf_word
  have c_law_take := c_law_take (P := P) (base := base) T
  refine cal_of F (F.ok sc_law_leaf_word (fun vs H Q E h => by obtain ⟨_, _, _, _, rfl, _⟩ := h; rfl) (fun cdv A outer s H vs Q E hr h => ⟨_, PSs.nox (pss_cons (ps_set (i := 2) sc_law_leaf_word.nd rfl (Or.inr rfl) pe_str)
    (pss_cons (ps_set (i := 3) sc_law_leaf_word.nd rfl (Or.inl rfl) (pe_m1 PySem.F.slot_str_join PySem.F.type_str_join (mt_joinK (K := K)) pe_str (pe_lc (own := [("turn", 6)]) (g := (gName 6)) (tt := tYes) (by rfl) sc_law_leaf_word.nd (pi_range1 (by rfl) T.n_range (pa_cons (pe_op op_add pe_int (pe_c c_law_take hr (by decide) rfl (pa_cons (pv 0) (pa_cons pe_int pa_nil)))) pa_nil)) (blkOk_by (N := N_law_leaf_word) (sc := defScope s_law_leaf_word) (by decide +kernel)) (fun _ _ _ _ _ => (pg_name (i := 6) sc_law_leaf_word.nd rfl (Or.inl rfl))) (fun _ _ _ _ _ => pts_nil) (fun _ _ _ _ _ => (pe_ix ix_str (pv 2) (pe_c c_law_take hr (by decide) rfl (pa_cons (pv 0) (pa_cons pe_int pa_nil))) (fun _ _ => rfl))))))
    (pss_cons (ps_set (i := 3) sc_law_leaf_word.nd rfl (Or.inl rfl) (pe_ifExp (pt_cmpR (op_inK (K := K)) (pv 3) (pe_lst (pa_cons pe_str (pa_cons pe_str pa_nil))) (by rfl)) pe_str (pv 3)))
    (pss_cons (ps_set (i := 4) sc_law_leaf_word.nd rfl (Or.inl rfl) (pe_c c_law_take hr (by decide) rfl (pa_cons (pv 0) (pa_cons pe_int pa_nil))))
    (pss_cons (ps_if (PW.pt (pw_and (pt_cmpR op_lt (pv 4) pe_int (nomark _)) (pw_and1 (pt_cmpR (op_neEL (K := K) hr.units) (pv 1) (pe_lst pa_nil) (nomark _))))) (pss_one (ps_ret (pe_op op_addS pe_str (pe_callTy call_strN rfl T.n_str b_str (pa_cons (pe_ix (ix_listK (K := K)) (pv 1) (pe_c c_law_take hr (by decide) rfl (pa_cons (pv 0) (pa_cons (pe_callB (call_lenK (K := K)) rfl T.n_len PySem.boot_len (pa_cons (pv 1) pa_nil)) pa_nil))) (fun _ _ => rfl)) pa_nil))))) pss_nil)
    (pss_cons (ps_set (i := 5) sc_law_leaf_word.nd rfl (Or.inl rfl) (pe_lst (pa_cons (pe_op op_addS pe_str (pe_callTy call_strN rfl T.n_str b_str (pa_cons (pe_c c_law_take hr (by decide) rfl (pa_cons (pv 0) (pa_cons pe_int pa_nil))) pa_nil))) (pa_cons (pv 3) (pa_cons (pe_op op_addS (pe_op op_addS (pv 3) pe_str) (pe_callTy call_strN rfl T.n_str b_str (pa_cons (pe_c c_law_take hr (by decide) rfl (pa_cons (pv 0) (pa_cons pe_int pa_nil))) pa_nil))) pa_nil)))))
    (pss_cons (ps_expr (pe_bm PySem.F.plainAttrs_list PySem.F.slot_list_append PySem.F.type_list_append mt_append (pv 5) (pa_cons (pe_op op_addS (pe_op op_addS (pv 3) pe_str) (pe_callTy call_strN rfl T.n_str b_str (pa_cons (pe_c c_law_take hr (by decide) rfl (pa_cons (pv 0) (pa_cons pe_int pa_nil))) pa_nil))) pa_nil)))
    (pss_one (ps_ret (pe_ix (ix_listK (K := K)) (pe_op op_cat (pv 5) (pe_lst (pa_cons (pe_op op_addS pe_str (pv 3)) (pa_cons (pv 3) (pa_cons pe_str pa_nil))))) (pv 4) (fun _ _ => rfl))))))))))), ?_⟩)) T.g_law_leaf_word
    fun _ _ _ _ _ _ us hl => match us, hl with | [_, _], _ => rfl
  obtain ⟨b, a, n, ar, rfl, hB, hn, hab, ha, har, harl, q⟩ := h
  have aK : ∀ {H'}, Mo b H H' → H' a = some (.lst (arI ar)) := fun m => m a _ hab ha
  refine rd_set (K := K) (es_w wSmall) fun v2 H1 e1 hv2 => ?_
  cases hv2
  dsimp only
  refine at_asg ?_
  refine ⟨⟨_, rfl⟩, ?_⟩
  refine at_lc (at_rng (at_op ?_))
  refine (at_take (K := K) rfl (hB.same e1) (by omega) (by decide) (by decide) es_int fun r1 H2 m2 B2 h2 => ⟨1, _, rfl, rfl, _, rfl, by omega, by omega, fun D hD => ?_⟩)
  have hDb : D ≠ b := fun z => by obtain ⟨x, y, w, hb, _⟩ := B2; rw [← z, hD] at hb; cases hb
  have m02 : Mo b H H2 := (Mo.of e1).trans m2
  refine lc_it (walk_range (lo := 0) (n := ((1 : Int) + (r1 : Int)).toNat)) (fun i H' => ∃ cs : List Wd, cs.length = i ∧ (∀ w ∈ cs, ∃ c, w = [c] ∧ 97 ≤ c ∧ c ≤ 122) ∧ H' D = some (.lst (cs.map wV)) ∧ Mo b H2 (H') ∧ ∃ k, k ≤ n + 1 + i ∧ Bx H' b k) ?_ (fun _ _ _ _ => trivial) (fun i x H3 H4 hi g y => ?_) (fun H3 g => ?_)
  · exact ⟨[], rfl, by simp, upd_same, Mo.of (same_new hD _), n + 1, by omega, B2.same (same_new hD _)⟩
  · obtain ⟨cs, g1, g2, g3, g4, k, g5, g6⟩ := g
    obtain ⟨rfl, rfl⟩ := y
    have hi3 : i < 3 := by omega
    refine ⟨rfl, ?_⟩
    unfold tYes
    refine iteT ?_
    refine at_op ⟨_, rfl, ?_⟩
    refine at_take (K := K) rfl g6 (by omega) (by decide) (by decide) es_int fun r H5 m5 B5 hr26 => ?_
    refine ⟨_, _, 97 + r, rfl, rfl, by rw [S_length]; decide, ?_, cs.map wV, m5 _ _ hDb g3, by rw [List.length_map]; exact Nat.lt_of_lt_of_le (show cs.length < 4 by omega) (by decide), cs ++ [[97 + r]], by simp [g1], ?_, ?_, (g4.trans m5).own hD _, k + 1, by omega, ?_⟩
    · exact atI_nat (small_get r (by omega))
    · intro w hw
      rcases List.mem_append.mp hw with h | h
      · exact g2 w h
      · rw [List.mem_singleton] at h
        exact ⟨_, h, by omega, by omega⟩
    · rw [List.map_append]
      exact upd_same
    · obtain ⟨x, y, z, hb, h9⟩ := B5
      exact ⟨x, y, z, by rw [upd_ne hDb.symm]; exact hb, h9⟩
  · obtain ⟨cs, g1, g2, g3, g4, k, g5, g6⟩ := g
    have m3 : Mo b H H3 := m02.trans g4
    have hlow := ones_low g2 (by omega) (by omega)
    refine ⟨S [], D, cs.map S, rfl, rfl, .inl (SqL.of (by rw [wV_map]; exact g3)), ?_, ?_⟩
    · rw [ones_sum g2, List.length_map, S_length]
      simp
      omega
    rw [show Txt.join (S []) (cs.map S) = S cs.flatten from by rw [SX.join_S, joinL_nil]]
    generalize cs.flatten = w0 at hlow ⊢
    have hk : k ≤ n + 4 := by omega
    clear g1 g2 g3 cs g5
    have hlow1 := ren_low hlow
    unfold gName
    dsimp only
    refine rd_set (K := K) (d := wD (ren w0)) (es_if (est_op (es_op (od_in (ws := [wAll, wFun])) (es_var (i := 3) rfl (dt_w w0)) (es_lst (esa_cons (es_w wAll) (esa_cons (es_w wFun) esa_nil))))) (fun hc => (es_w wNun).eq (by unfold ren; rw [if_pos hc])) (fun hc => (es_var (i := 3) rfl (dt_w w0)).eq (by unfold ren; rw [if_neg (by rw [hc]; decide)]))) fun v4 H4 e4 hv4 => ?_
    cases hv4
    generalize ren w0 = w1 at hlow1 ⊢
    dsimp only
    refine at_asg ?_
    refine at_take (K := K) rfl (g6.same e4) (by omega) (by decide) (by decide) es_int fun r2 H5 m5 B5 hr2 => ?_
    dsimp only
    have m05 : Mo b H H5 := (m3.trans (Mo.of e4)).trans m5
    refine rd_if (b := decide ((r2 : Int) < 3) && !(ar.map fun n : Nat => PyData.int (n : Int)).isEmpty) (est_and (est_op (es_op od_cmp (es_var (K := K) (i := 4) rfl (.int _)) es_int)) fun _ => est_op (es_op (od_neEL (lay_arI ar)) (es_var (K := K) (i := 1) rfl (dt_arI (aK m05))) (es_lst esa_nil))) (fun H6 e6 hb => ?_) (fun H6 e6 hb => ?_)
    · have hpos : 0 < ar.length := by
        cases ar with
        | nil => simp at hb
        | cons _ _ => simp
      refine at_ret (at_op ((es_w (K := K) [120]).at fun vx H7 e7 hvx => ?_))
      cases hvx
      refine at_cb1 (at_op ⟨_, rfl, ?_⟩)
      have m07 := (m05.trans (Mo.of e6)).trans (Mo.of e7)
      refine at_take (K := K) (m := ((ar.map fun n : Nat => PyData.int (n : Int)).length : Nat)) rfl ((B5.same e6).same e7) (by omega) (by rw [List.length_map]; omega) (by rw [List.length_map]; omega) (es_b cb_lenL (esa_cons (es_var (K := K) (i := 1) rfl (dt_arI (aK m07))) esa_nil)) fun r3 H8 m8 B8 hr3 => ?_
      rw [List.length_map] at hr3
      have hr3' : r3 < ar.length := by omega
      have hsm := har _ (List.getElem_mem hr3')
      refine ⟨a, arI ar, r3, .int (ar[r3] : Nat), rfl, rfl, SqL.of (aK (m07.trans m8)), atI_nat (by unfold arI; rw [List.getElem?_map, List.getElem?_eq_getElem hr3']; rfl), ?_⟩
      refine .inl ⟨_, rfl, log_small hsm, ?_⟩
      have := SX.num_S ar[r3]
      rw [show (toString ((ar[r3] : Nat) : Int) : Str) = S (TL.numL ar[r3]) from this]
      obtain ⟨q1, q2⟩ := num_small _ hsm
      refine ⟨_, _, rfl, rfl, ?_, ?_⟩
      · rw [S_length, S_length]
        exact len_small (by simp; omega)
      · rw [SX.S_cat]
        exact q _ H8 (safe_leaf (by rw [List.all_append, q1]; rfl) (by simp) (by simp; omega)) (m07.trans m8) (B8.mono (by omega))
    · unfold tNext
      dsimp only
      refine at_asg (at_lst ?_)
      refine at_cons (at_strT (K := K) rfl (B5.same e6) (by omega) (by decide) (by decide) (es_w [42]) (by decide) fun r3 H7 m7 B7 hr3 => ?_)
      refine at_cons ⟨_, rfl, ?_⟩
      refine at_cons (at_strT (K := K) rfl B7 (by omega) (by decide) (by decide) (es_op (od_addS (by have := hlow1.2.2; simp; omega)) (es_var (i := 3) rfl (dt_w w1)) (es_w [35])) (by have := hlow1.2.2; simp; omega) fun r4 H8 m8 B8 hr4 => ?_)
      refine ⟨by show 3 ≤ sizeLine; decide, fun L hL => ?_⟩
      dsimp only
      have hLb : L ≠ b := fun z => by obtain ⟨x, y, w, hb, _⟩ := B8; rw [← z, hL] at hb; cases hb
      have B8' : Bx (upd H8 L (.lst [wV ([42] ++ TL.numL r3), wV w1, wV (w1 ++ [35] ++ TL.numL r4)])) b (n + 7) := (B8.mono (by omega)).same (same_new hL _)
      refine ⟨_, rfl, .inl ⟨rfl, _, SqL.of upd_same⟩, ?_⟩
      refine at_cons (at_strT (K := K) rfl B8' (by omega) (by decide) (by decide) (es_op (od_addS (by have := hlow1.2.2; simp; omega)) (es_var (i := 3) rfl (dt_w w1)) (es_w [33])) (by have := hlow1.2.2; simp; omega) fun r5 H9 m9 B9 hr5 => ?_)
      refine ⟨L, _, _, rfl, rfl, m9 _ _ hLb upd_same, by show 3 < sizeLine; decide, ?_⟩
      dsimp only
      have m68 : Mo b H5 H8 := ((Mo.of e6).trans m7).trans m8
      have m09 : Mo b H H9 := (m05.trans m68).trans ((Mo.of (same_new hL _)).trans m9)
      have hLH : H L = none := by
        cases z : H L with
        | none => rfl
        | some o => rw [(m05.trans m68) L o hLb z] at hL; cases hL
      let us : List Wd := [[42] ++ TL.numL r3, w1, w1 ++ [35] ++ TL.numL r4, w1 ++ [33] ++ TL.numL r5]
      have hus : ∀ u ∈ us ++ [[64] ++ w1, w1, [42, 48]], leafOk u := by
        obtain ⟨n3, _⟩ := num_small r3 (by omega)
        obtain ⟨n4, _⟩ := num_small r4 (by omega)
        obtain ⟨n5, _⟩ := num_small r5 (by omega)
        have l3 := num_7 r3 hr3
        have l4 := num_7 r4 hr4
        have l5 := num_7 r5 hr5
        have ha : ∀ suf : Wd, suf.all safe = true → suf.length ≤ 3 → leafOk (w1 ++ suf) := fun suf h1 h2 => low_leaf (pre := []) hlow1 rfl h1 (by simpa using h2)
        intro u hu
        simp only [us, List.cons_append, List.nil_append, List.mem_cons, List.not_mem_nil, or_false] at hu
        rcases hu with rfl | rfl | rfl | rfl | rfl | rfl | rfl
        · exact safe_leaf (by rw [List.all_cons, n3]; rfl) (by simp) (by simp; omega)
        · simpa using ha [] rfl (by decide)
        · rw [List.append_assoc]
          exact ha _ (by rw [List.all_append, n4]; rfl) (by simp; omega)
        · rw [List.append_assoc]
          exact ha _ (by rw [List.all_append, n5]; rfl) (by simp; omega)
        · have := low_leaf (pre := [64]) (suf := []) hlow1 rfl rfl (by decide)
          simpa using this
        · simpa using ha [] rfl (by decide)
        · exact safe_leaf (by decide) (by decide) (by decide)
      have hat : ∃ u, (us ++ [[64] ++ w1, w1, [42, 48]])[r2]? = some u ∧ leafOk u := by
        have hl7 : (us ++ [[64] ++ w1, w1, [42, 48]]).length = 7 := rfl
        have hr7 : r2 < (us ++ [[64] ++ w1, w1, [42, 48]]).length := by omega
        exact ⟨_, List.getElem?_eq_getElem hr7, hus _ (List.getElem_mem hr7)⟩
      obtain ⟨u, hu, hok⟩ := hat
      have hat' : L2.atI (wsD us ++ [wD ([64] ++ w1), wD w1, wD [42, 48]]) (r2 : Int) = some (wD u) := by
        refine atI_nat ?_
        have := congrArg (Option.map wD) hu
        rw [← List.getElem?_map, List.map_append] at this
        exact this
      refine at_ret ((es_op (d := wD u) (od_ixL hat') (es_op (od_cat (by show 7 ≤ 100000; decide)) (es_var (K := K) (i := 5) rfl (.lst upd_same (DtA.map (fun u => dt_w u) us))) (es_lst (esa_cons (es_op (od_addS (by have := hlow1.2.2; simp; omega)) (es_w [64]) (es_var (i := 3) rfl (dt_w w1))) (esa_cons (es_var (i := 3) rfl (dt_w w1)) (esa_cons (es_w [42, 48]) esa_nil))))) (es_var (i := 4) rfl (.int _))).at fun v HA eA hv => ?_)
      cases hv
      refine q u HA hok ((m09.own hLH _).trans (Mo.of eA)) (Bx.same ?_ eA)
      obtain ⟨x, y, z, hb, h7, h8, h9, h10⟩ := B9
      exact ⟨x, y, z, by rw [upd_ne hLb.symm]; exact hb, h7, h8, h9, by omega⟩
end
end K83
namespace K83
open PySem PySem.Spec PyProof.Rows L2
open C8 (Cal pe_c CalAt)
section
variable {P : Program} {w : World} {K : PySem.W.Frag} {mg : Str → Option Value} {base : Heap}
theorem at_if {tt : TT} {u1 u2 : TS} {D : L2.Ends} {σ : L2.St} {H : Hp} (h : tt σ H fun c H1 => if c = true then u1 D σ H1 else u2 D σ H1) : tIfS tt u1 u2 D σ H := h
theorem at_or {t u : TT} {σ : L2.St} {H : Hp} {Q : Bool → Hp → Prop} (h : t σ H fun c H1 => if c = true then Q true H1 else u σ H1 Q) : tOr t u σ H Q := h
theorem at_tst {t : TE} {σ : L2.St} {H : Hp} {Q : Bool → Hp → Prop} (h : t σ H fun x H' => ∃ k, x = .bl k ∧ Q k H') : tTest t σ H Q := h
theorem at_call {sp : Sp} {dvs : List V} {E : XK} {tr : TA} {σ : L2.St} {H : Hp} {Q : VK} (h : tr σ H fun vs H1 => sp (vs ++ dvs) H1 Q E) : tCall sp dvs E tr σ H Q := h
/-! ### part_words, term_words -/
def nT : Nat → Nat
  | 0 => 1
  | d + 1 => 1 + 3 * (1 + nT d)
def kT : Nat → Nat
  | 0 => 1
  | d + 1 => 1 + 3 * (4 + kT d)
def bT : Nat → Nat
  | 0 => 13
  | d + 1 => 8 * bT d
def nP : Nat → Nat
  | 0 => 1
  | d + 1 => 1 + nT d
def kP : Nat → Nat
  | 0 => 1
  | d + 1 => 4 + kT d
def bP : Nat → Nat
  | 0 => 12
  | d + 1 => 1 + bT d
theorem nT_pos : ∀ d, 1 ≤ nT d
  | 0 => Nat.le_refl _
  | d + 1 => by unfold nT; omega
theorem kT_pos : ∀ d, 1 ≤ kT d
  | 0 => Nat.le_refl _
  | d + 1 => by unfold kT; omega
theorem bT_pos : ∀ d, 13 ≤ bT d
  | 0 => Nat.le_refl _
  | d + 1 => by have := bT_pos d; unfold bT; omega
theorem nT_le : ∀ d ≤ 3, nT d ≤ 79 := by decide
theorem kT_le : ∀ d ≤ 3, kT d ≤ 196 := by decide
theorem bT_le : ∀ d ≤ 3, bT d ≤ 6656 := by decide
/-- words that were drawn -/
structure Wz (N C : Nat) (us : List Wd) : Prop where
  ok : ∀ u ∈ us, okWd u = true
  zer : cost 0 us ≤ N
  low : cost 3 us ≤ C
theorem Wz.app {N C N2 C2 : Nat} {us vs : List Wd} (h : Wz N C us) (g : Wz N2 C2 vs) : Wz (N + N2) (C + C2) (us ++ vs) :=
  ⟨fun u hu => (List.mem_append.mp hu).elim (h.ok u) (g.ok u), by rw [cost_app]; have := h.zer; have := g.zer; omega, by rw [cost_app]; have := h.low; have := g.low; omega⟩
theorem Wz.le {N C N2 C2 : Nat} {us : List Wd} (h : Wz N C us) (g1 : N ≤ N2) (g2 : C ≤ C2) : Wz N2 C2 us := ⟨h.ok, Nat.le_trans h.zer g1, Nat.le_trans h.low g2⟩
theorem Wz.len {N C : Nat} {us : List Wd} (h : Wz N C us) : us.length ≤ C := Nat.le_trans (len_cost us) h.low
theorem Wz.leaf {u : Wd} (h : leafOk u) : Wz 1 1 [u] := ⟨fun v hv => by rw [List.mem_singleton.mp hv]; exact h.1, by unfold cost cw; simp [h.2], by unfold cost cw; simp [h.2]⟩
theorem Wz.opn : Wz 0 3 [wOpn] := ⟨by decide, by decide, by decide⟩
def spDr (K : PySem.W.Frag) (N C B d : Nat) : Sp := fun vs H Q _ => ∃ (b a : Addr) (n : Nat) (ar : List Nat), vs = [.ref b, .int (d : Int), .ref a] ∧ Bx H b n ∧ n + B ≤ 1000000 ∧ a ≠ b ∧ H a = some (.lst (arI ar)) ∧ (∀ k ∈ ar, k < 1000) ∧ ar.length + d < 100 ∧
  ∀ us v H2, Wz N C us → Mo b H H2 → Bx H2 b (n + B) → Dt K H2 v (.list (wsD us)) → Q v H2
def spTm (K : PySem.W.Frag) (d : Nat) : Sp := spDr K (nT d) (kT d) (bT d) d
def spPt (K : PySem.W.Frag) (d : Nat) : Sp := spDr K (nP d) (kP d) (bP d) d
abbrev N_law_part_words : List Str := ["box", "deep", "around"]
abbrev P_law_part_words : List Str := ["box", "deep", "around"]
theorem sc_law_part_words : FnScope N_law_part_words P_law_part_words (defScope s_law_part_words) := ⟨rfl, rfl, rfl, by decide +kernel, rfl, by decide +kernel, by decide +kernel⟩
theorem c_part (T : Tx w K mg) {k m : Nat} {spT : Sp} (d : Nat) (hd3 : d ≤ 3) (cT : Cal P w K mg base m "_law_term_words" spT []) (hm : m ≤ k) (hk : 2 ≤ k) (hT : ∀ e, d = e + 1 → spT = spTm K e) : Cal P w K mg base (k + 1) "_law_part_words" (spPt K d) [] := by
  obtain ⟨fd, F⟩ := T.d_law_part_words
  have c_law_take := c_law_take (P := P) (base := base) T
  have c_law_leaf_word := c_law_leaf_word (P := P) (base := base) T
  refine cal_of F (F.ok sc_law_part_words (fun vs H Q E h => by obtain ⟨_, _, _, _, rfl, _⟩ := h; rfl) (fun cdv A outer s H vs Q E hr h => ⟨_, PSs.nox ((pss_cons (ps_if (PW.pt (pw_or (pt_cmpR op_eq (pv 1) pe_int (nomark _)) (pw_or1 (pt_cmpR op_gt (pe_c c_law_take hr (by omega) rfl (pa_cons (pv 0) (pa_cons pe_int pa_nil))) pe_int (nomark _))))) (pss_one (ps_ret (pe_lst (pa_cons (pe_c c_law_leaf_word hr hk rfl (pa_cons (pv 0) (pa_cons (pv 2) pa_nil))) pa_nil)))) pss_nil)
    (pss_one (ps_ret (pe_op op_cat (pe_op op_cat (pe_lst (pa_cons pe_str pa_nil)) (pe_c cT hr hm rfl (pa_cons (pv 0) (pa_cons (pe_op op_sub (pv 1) pe_int) (pa_cons (pv 2) pa_nil))))) (pe_lst (pa_cons pe_str pa_nil))))))), ?_⟩)) T.g_law_part_words
    fun _ _ _ _ _ _ us hl => match us, hl with | [_, _, _], _ => rfl
  obtain ⟨b, a, n, ar, rfl, hB, hn, hab, ha, har, harl, q⟩ := h
  have aK : ∀ {H'}, Mo b H H' → H' a = some (.lst (arI ar)) := fun m => m a _ hab ha
  have leaf : ∀ (H1 : Hp) (n1 : Nat), Mo b H H1 → Bx H1 b n1 → n1 + 12 ≤ n + bP d → tLst (tCons (tCall (spLeaf K) [] C8.E0 (tCons (tVar 0) (tCons (tVar 2) tNil))) tNil) (L2.start N_law_part_words [V.ref b, V.int (d : Int), V.ref a]) H1 Q := by
    intro H1 n1 m1 B1 hle
    refine at_lst (at_cons (at_call ⟨_, rfl, _, rfl, b, a, n1, ar, rfl, B1, by omega, hab, aK m1, har, by omega, fun u H2 hu m2 B2 => ⟨by show 1 ≤ sizeLine; decide, fun p hp => ?_⟩⟩))
    refine q [u] _ _ ((Wz.leaf hu).le ?_ ?_) ((m1.trans m2).trans (Mo.of (same_new hp _))) ((B2.same (same_new hp _)).mono hle) (.lst upd_same (.cons (dt_w u) .nil))
    · cases d with
      | zero => exact Nat.le_refl _
      | succ e => have := nT_pos e; show 1 ≤ 1 + nT e; omega
    · cases d with
      | zero => exact Nat.le_refl _
      | succ e => have := kT_pos e; show 1 ≤ 4 + kT e; omega
  refine at_if (at_or ((est_op (es_op od_eqI (es_var (K := K) (i := 1) rfl (.int _)) es_int)).at fun H1 e1 => ?_))
  by_cases hd : d = 0
  · subst hd
    refine iteT (iteT (at_ret (leaf H1 n (Mo.of e1) (hB.same e1) (Nat.le_refl _))))
  · obtain ⟨e, rfl⟩ : ∃ e, d = e + 1 := ⟨d - 1, by omega⟩
    have hT' := hT e rfl
    subst hT'
    have hb1 := bT_pos e
    have hbP : bP (e + 1) = 1 + bT e := rfl
    rw [decide_eq_false (by omega : ¬ (((e + 1 : Nat) : Int) = 0))]
    refine iteF (at_tst (at_op (at_take (K := K) rfl (hB.same e1) (by omega) (by decide) (by decide) es_int fun r H2 m2 B2 hr3 => ?_)))
    have m02 := (Mo.of e1).trans m2
    refine ⟨_, _, rfl, rfl, _, rfl, ?_⟩
    by_cases hr0 : (r : Int) > 0
    · rw [decide_eq_true hr0]
      exact iteT (at_ret (leaf H2 (n + 1) m02 B2 (by omega)))
    · rw [decide_eq_false hr0]
      refine iteF ?_
      unfold tNext
      dsimp only
      refine at_ret (at_op (at_op ((es_lst (K := K) (esa_cons (es_w [40]) esa_nil)).at fun v1 H3 e3 hv1 => ?_)))
      have m03 := m02.trans (Mo.of e3)
      refine at_call ⟨_, rfl, ⟨_, rfl, _, _, rfl, rfl, _, rfl, ?_⟩⟩
      refine ⟨b, a, n + 1, ar, by show [V.ref b, V.int (((e + 1 : Nat) : Int) - 1), V.ref a] = _; rw [show ((e + 1 : Nat) : Int) - 1 = (e : Int) by omega], B2.same e3, by omega, hab, aK m03, har, by omega, fun us v H4 hz m4 B4 hv => ?_⟩
      have hv1' := ws_bx (ws := [[40]]) (B2.same e3) m4 hv1
      have hl := hz.len
      have hl2 := kT_le e (by omega)
      refine od_cat (ds := wsD [[40]]) (by rw [wsD_len, wsD_len]; simp; omega) H4 v1 v hv1' hv _ fun v5 H5 e5 hv5 => ?_
      refine (es_lst (K := K) (esa_cons (es_w [41]) esa_nil)).at fun v6 H6 e6 hv6 => ?_
      refine od_cat (es := wsD [[41]]) (by rw [List.length_append, wsD_len, wsD_len, wsD_len]; simp; omega) H6 v5 v6 (hv5.same e6) hv6 _ fun v7 H7 e7 hv7 => ?_
      have e47 := (e5.trans e6).trans e7
      refine q ([40] :: (us ++ [[41]])) v7 H7 ?_ ((m03.trans m4).trans (Mo.of e47)) ((B4.same e47).mono (by omega)) ?_
      · have h1 := (Wz.opn.app hz).app (N2 := 1) (C2 := 1) (vs := [[41]]) ⟨by decide, by decide, by decide⟩
        exact h1.le (by show 0 + nT e + 1 ≤ 1 + nT e; omega) (by show 3 + kT e + 1 ≤ 4 + kT e; omega)
      · have : wsD ([40] :: (us ++ [[41]])) = wsD [[40]] ++ wsD us ++ wsD [[41]] := by simp [wsD]
        rw [this]
        exact hv7
end
end K83
namespace K83
open PySem PySem.Spec PyProof.Rows L2
open C8 (Cal pe_c CalAt)
section
variable {P : Program} {w : World} {K : PySem.W.Frag} {mg : Str → Option Value} {base : Heap}
theorem at_cat {ws1 ws2 : List Wd} {v1 v2 : V} {H : Hp} {Q : VK} (h1 : Dt K H v1 (.list (wsD ws1))) (h2 : Dt K H v2 (.list (wsD ws2))) (hl : ws1.length + ws2.length ≤ 100000) (q : ∀ v H', Same H H' → Dt K H' v (.list (wsD (ws1 ++ ws2))) → Q v H') : rCat v1 v2 H Q := by
  refine od_cat (K := K) (ds := wsD ws1) (es := wsD ws2) (by rw [wsD_len, wsD_len]; exact hl) H v1 v2 h1 h2 Q fun v H' e hv => q v H' e ?_
  rw [show wsD (ws1 ++ ws2) = wsD ws1 ++ wsD ws2 from List.map_append]
  exact hv
theorem Bx.ne {H : Hp} {b p : Addr} {n : Nat} (h : Bx H b n) (g : H p = none) : p ≠ b := fun z => by
  obtain ⟨x, y, w, hb, _⟩ := h
  rw [← z, g] at hb
  cases hb
theorem at_leafL {σ : L2.St} {H : Hp} {a b : Addr} {n : Nat} {ar : List Nat} {E : XK} {Q : VK} (h0 : σ[0]? = some (some (.ref b))) (h2 : σ[2]? = some (some (.ref a))) (hB : Bx H b n) (hn : n + 12 ≤ 1000000) (hab : a ≠ b) (ha : H a = some (.lst (arI ar))) (har : ∀ k ∈ ar, k < 1000) (harl : ar.length < 100)
    (q : ∀ u v H2, leafOk u → Mo b H H2 → Bx H2 b (n + 12) → Dt K H2 v (.list (wsD [u])) → Q v H2) : tLst (tCons (tCall (spLeaf K) [] E (tCons (tVar 0) (tCons (tVar 2) tNil))) tNil) σ H Q := by
  refine at_lst (at_cons (at_call ⟨_, h0, _, h2, b, a, n, ar, rfl, hB, hn, hab, ha, har, by omega, fun u H2 hu m2 B2 => ⟨by show 1 ≤ sizeLine; decide, fun p hp => ?_⟩⟩))
  exact q u _ _ hu (m2.trans (Mo.of (same_new hp _))) (B2.same (same_new hp _)) (.lst upd_same (.cons (dt_w u) .nil))
theorem at_tm {σ : L2.St} {H : Hp} {a b : Addr} {n e : Nat} {ar : List Nat} {E : XK} {Q : VK} (h0 : σ[0]? = some (some (.ref b))) (h1 : σ[1]? = some (some (.int ((e + 1 : Nat) : Int)))) (h2 : σ[2]? = some (some (.ref a))) (hB : Bx H b n) (hn : n + bT e ≤ 1000000) (hab : a ≠ b) (ha : H a = some (.lst (arI ar))) (har : ∀ k ∈ ar, k < 1000) (harl : ar.length + e < 100)
    (q : ∀ us v H2, Wz (nT e) (kT e) us → Mo b H H2 → Bx H2 b (n + bT e) → Dt K H2 v (.list (wsD us)) → Q v H2) : tCall (spTm K e) [] E (tCons (tVar 0) (tCons (tOp (rI0 fun i j => V.int (i - j)) (tVar 1) (tC (.int 1))) (tCons (tVar 2) tNil))) σ H Q := by
  refine at_call ⟨_, h0, ⟨_, h1, _, _, rfl, rfl, _, h2, ?_⟩⟩
  exact ⟨b, a, n, ar, by show [V.ref b, V.int (((e + 1 : Nat) : Int) - 1), V.ref a] = _; rw [show ((e + 1 : Nat) : Int) - 1 = (e : Int) by omega], hB, hn, hab, ha, har, harl, q⟩
theorem at_pt {σ : L2.St} {H : Hp} {a b : Addr} {n d : Nat} {ar : List Nat} {E : XK} {Q : VK} (h0 : σ[0]? = some (some (.ref b))) (h1 : σ[1]? = some (some (.int (d : Int)))) (h2 : σ[2]? = some (some (.ref a))) (hB : Bx H b n) (hn : n + bP d ≤ 1000000) (hab : a ≠ b) (ha : H a = some (.lst (arI ar))) (har : ∀ k ∈ ar, k < 1000) (harl : ar.length + d < 100)
    (q : ∀ us v H2, Wz (nP d) (kP d) us → Mo b H H2 → Bx H2 b (n + bP d) → Dt K H2 v (.list (wsD us)) → Q v H2) : tCall (spPt K d) [] E (tCons (tVar 0) (tCons (tVar 1) (tCons (tVar 2) tNil))) σ H Q :=
  at_call ⟨_, h0, _, h1, _, h2, b, a, n, ar, rfl, hB, hn, hab, ha, har, harl, q⟩
theorem Wz.one {u : Wd} (h : okWd u = true) (g : u ≠ wOpn) : Wz 1 1 [u] := Wz.leaf ⟨h, g⟩
theorem at_tif {t : TT} {ta tb : TE} {σ : L2.St} {H : Hp} {Q : VK} (h : t σ H fun c H1 => if c = true then ta σ H1 Q else tb σ H1 Q) : tIf t ta tb σ H Q := h
abbrev N_law_term_words : List Str := ["box", "deep", "around", "way", "part", "other", "number", "begun"]
abbrev P_law_term_words : List Str := ["box", "deep", "around"]
theorem sc_law_term_words : FnScope N_law_term_words P_law_term_words (defScope s_law_term_words) := ⟨rfl, rfl, rfl, by decide +kernel, rfl, by decide +kernel, by decide +kernel⟩
theorem c_term (T : Tx w K mg) {k m m2 : Nat} {spT : Sp} (d : Nat) (hd3 : d ≤ 3) (cT : Cal P w K mg base m "_law_term_words" spT []) (cP : Cal P w K mg base m2 "_law_part_words" (spPt K d) []) (hm : m ≤ k) (hm2 : m2 ≤ k) (hk : 2 ≤ k) (hT : ∀ e, d = e + 1 → spT = spTm K e) : Cal P w K mg base (k + 1) "_law_term_words" (spTm K d) [] := by
  obtain ⟨fd, F⟩ := T.d_law_term_words
  have c_law_take := c_law_take (P := P) (base := base) T
  have c_law_leaf_word := c_law_leaf_word (P := P) (base := base) T
  refine cal_of F (F.ok sc_law_term_words (fun vs H Q E h => by obtain ⟨_, _, _, _, rfl, _⟩ := h; rfl) (fun cdv A outer s H vs Q E hr h => ⟨_, PSs.nox ((pss_cons (ps_set (i := 3) sc_law_term_words.nd rfl (Or.inl rfl) (pe_c c_law_take hr (by omega) rfl (pa_cons (pv 0) (pa_cons pe_int pa_nil))))
    (pss_cons (ps_if (PW.pt (pw_or (pt_cmpR op_eq (pv 1) pe_int (nomark _)) (pw_or1 (pt_cmpR op_lt (pv 3) pe_int (nomark _))))) (pss_one (ps_ret (pe_lst (pa_cons (pe_c c_law_leaf_word hr hk rfl (pa_cons (pv 0) (pa_cons (pv 2) pa_nil))) pa_nil)))) pss_nil)
    (pss_cons (ps_if (pt_cmpR op_lt (pv 3) pe_int (nomark _)) (pss_cons (ps_set (i := 6) sc_law_term_words.nd rfl (Or.inl rfl) (pe_ix (ix_listK (K := K)) (pe_lst (pa_cons (pe_callB (call_lenK (K := K)) rfl T.n_len PySem.boot_len (pa_cons (pv 2) pa_nil)) (pa_cons (pe_c c_law_take hr (by omega) rfl (pa_cons (pv 0) (pa_cons pe_int pa_nil))) pa_nil))) (pe_c c_law_take hr (by omega) rfl (pa_cons (pv 0) (pa_cons pe_int pa_nil))) (fun _ _ => rfl)))
    (pss_cons (ps_set (i := 7) sc_law_term_words.nd rfl (Or.inl rfl) (pe_op op_cat (pe_lst (pa_cons (pe_ix (ix_listK (K := K)) (pe_lst (pa_cons pe_str (pa_cons pe_str pa_nil))) (pe_op op_sub (pv 3) pe_int) (fun _ _ => rfl)) (pa_cons (pe_op op_addS pe_str (pe_callTy call_strN rfl T.n_str b_str (pa_cons (pv 6) pa_nil))) (pa_cons pe_str pa_nil)))) (pe_c cT hr hm rfl (pa_cons (pv 0) (pa_cons (pe_op op_sub (pv 1) pe_int) (pa_cons (pv 2) pa_nil))))))
    (pss_one (ps_ret (pe_op op_cat (pe_op op_cat (pv 7) (pe_lst (pa_cons pe_str pa_nil))) (pe_c cT hr hm rfl (pa_cons (pv 0) (pa_cons (pe_op op_sub (pv 1) pe_int) (pa_cons (pe_op op_cat (pv 2) (pe_lst (pa_cons (pv 6) pa_nil))) pa_nil))))))))) pss_nil)
    (pss_cons (ps_set (i := 4) sc_law_term_words.nd rfl (Or.inl rfl) (pe_c cP hr hm2 rfl (pa_cons (pv 0) (pa_cons (pv 1) (pa_cons (pv 2) pa_nil)))))
    (pss_cons (ps_set (i := 5) sc_law_term_words.nd rfl (Or.inl rfl) (pe_c cP hr hm2 rfl (pa_cons (pv 0) (pa_cons (pv 1) (pa_cons (pv 2) pa_nil)))))
    (pss_cons (ps_if (pt_cmpR op_eq (pv 3) pe_int (nomark _)) (pss_one (ps_ret (pe_op op_cat (pe_op op_cat (pv 4) (pe_lst (pa_cons pe_str pa_nil))) (pe_c cT hr hm rfl (pa_cons (pv 0) (pa_cons (pe_op op_sub (pv 1) pe_int) (pa_cons (pv 2) pa_nil))))))) pss_nil)
    (pss_cons (ps_if (pt_cmpR op_eq (pv 3) pe_int (nomark _)) (pss_one (ps_ret (pe_op op_cat (pe_op op_cat (pe_lst (pa_cons pe_str pa_nil)) (pv 4)) (pv 5)))) pss_nil)
    (pss_one (ps_ret (pe_ifExp (pt_cmpR op_eq (pv 3) pe_int (nomark _)) (pe_op op_cat (pv 4) (pv 5)) (pe_op op_cat (pe_op op_cat (pe_op op_cat (pe_lst (pa_cons (pe_ix (ix_listK (K := K)) (pe_lst (pa_cons pe_str (pa_cons pe_str pa_nil))) (pe_c c_law_take hr (by omega) rfl (pa_cons (pv 0) (pa_cons pe_int pa_nil))) (fun _ _ => rfl)) pa_nil)) (pv 4)) (pv 5)) (pv 4))))))))))))), ?_⟩)) T.g_law_term_words
    fun _ _ _ _ _ _ us hl => match us, hl with | [_, _, _], _ => rfl
  obtain ⟨b, a, n, ar, rfl, hB, hn, hab, ha, har, harl, q⟩ := h
  have aK : ∀ {H'}, Mo b H H' → H' a = some (.lst (arI ar)) := fun m => m a _ hab ha
  have hbT := bT_pos d
  refine at_asg (at_take (K := K) rfl hB (by omega) (by decide) (by decide) es_int fun way H1 m1 B1 hway => ?_)
  unfold gName
  dsimp only
  refine rd_if (b := decide ((d : Int) = 0) || decide ((way : Int) < 3)) (est_or (est_op (es_op od_eqI (es_var (K := K) (i := 1) rfl (.int _)) es_int)) fun _ => est_op (es_op od_cmp (es_var (K := K) (i := 3) rfl (.int _)) es_int)) (fun H2 e2 hb => ?_) (fun H2 e2 hb => ?_)
  · refine at_ret (at_leafL (K := K) (n := n + 1) rfl rfl (B1.same e2) (by omega) hab (aK (m1.trans (Mo.of e2))) har (by omega) fun u v H3 hu m3 B3 hv => ?_)
    exact q [u] v H3 ((Wz.leaf hu).le (nT_pos d) (kT_pos d)) ((m1.trans (Mo.of e2)).trans m3) (B3.mono (by omega)) hv
  · have hd0 : d ≠ 0 := fun z => by subst z; simp at hb
    have hw3 : 3 ≤ way := by
      simp only [Bool.or_eq_false_iff, decide_eq_false_iff_not] at hb
      omega
    obtain ⟨e, rfl⟩ : ∃ e, d = e + 1 := ⟨d - 1, by omega⟩
    have hT' := hT e rfl
    subst hT'
    have hb1 := bT_pos e
    have hbe : bT (e + 1) = 8 * bT e := rfl
    have hbp : bP (e + 1) = 1 + bT e := rfl
    have m02 := m1.trans (Mo.of e2)
    have B2 := B1.same e2
    have hne := nT_le e (by omega)
    have hke := kT_le e (by omega)
    unfold tNext
    dsimp only
    refine rd_if (b := decide ((way : Int) < 5)) (est_op (es_op od_cmp (es_var (K := K) (i := 3) rfl (.int _)) es_int)) (fun H3 e3 hb5 => ?_) (fun H3 e3 hb5 => ?_)
    · have m03 := m02.trans (Mo.of e3)
      have B3 := B2.same e3
      have hw5 : way < 5 := by
        have := of_decide_eq_true hb5
        omega
      refine at_asg (at_op (at_lst (at_cons ((es_b cb_lenL (esa_cons (es_var (K := K) (i := 2) rfl (dt_arI (aK m03))) esa_nil)).at fun vl H4 e4 hvl => ?_))))
      cases hvl
      rw [List.length_map]
      refine at_cons (at_take (K := K) rfl (B3.same e4) (by omega) (by decide) (by decide) es_int fun r1 H5 m5 B5 hr1 => ⟨by show 2 ≤ sizeLine; decide, fun p hp => ?_⟩)
      have hpb := B5.ne hp
      refine at_take (K := K) rfl (B5.same (same_new hp _)) (by omega) (by decide) (by decide) es_int fun r2 H6 m6 B6 hr2 => ?_
      have m06 := (((m03.trans (Mo.of e4)).trans m5).trans (Mo.of (same_new hp _))).trans m6
      obtain ⟨N, hN, hg⟩ : ∃ N : Nat, N < 1000 ∧ ([V.int (ar.length : Nat), V.int (r1 : Nat)])[r2]? = some (V.int (N : Nat)) := by
        rcases (by omega : r2 = 0 ∨ r2 = 1) with rfl | rfl
        · exact ⟨ar.length, by omega, rfl⟩
        · exact ⟨r1, by omega, rfl⟩
      refine ⟨p, _, _, _, rfl, rfl, SqL.of (m6 _ _ hpb upd_same), atI_nat hg, ?_⟩
      dsimp only
      obtain ⟨u, hu, huok, huno⟩ : ∃ u : Wd, ([[97, 108, 108], [102, 117, 110]] : List Wd)[way - 3]? = some u ∧ okWd u = true ∧ u ≠ wOpn := by
        rcases (by omega : way - 3 = 0 ∨ way - 3 = 1) with h | h
        · rw [h]; exact ⟨_, rfl, rfl, by decide⟩
        · rw [h]; exact ⟨_, rfl, rfl, by decide⟩
      have hix : L2.atI (wsD [[97, 108, 108], [102, 117, 110]]) ((way : Int) - 3) = some (wD u) := by
        rw [show ((way : Int) - 3) = ((way - 3 : Nat) : Int) by omega]
        exact atI_nat (wsD_get hu)
      obtain ⟨q1, q2⟩ := num_small N hN
      have hxl : leafOk ([120] ++ TL.numL N) := safe_leaf (by rw [List.all_append, q1]; rfl) (by simp) (by simp; omega)
      refine at_asg (at_op ((es_lst (K := K) (esa_cons (es_op (od_ixL hix) (es_lst (esa_cons (es_w [97, 108, 108]) (esa_cons (es_w [102, 117, 110]) esa_nil))) (es_op od_sub (es_var (i := 3) rfl (.int _)) es_int)) (esa_cons (es_op (od_addS (b := TL.numL N) (by simp; omega)) (es_w [120]) (es_b (cb_str (o := some N) (fun n h => by cases h; exact hN)) (esa_cons (es_var (i := 6) rfl (.int _)) esa_nil))) (esa_cons (es_w [58]) esa_nil)))).at fun v7 H7 e7 hv7 => ?_))
      have m07 := m06.trans (Mo.of e7)
      refine at_tm (K := K) rfl rfl rfl (B6.same e7) (by omega) hab (aK m07) har (by omega) fun us1 v8 H8 hz1 m8 B8 hv8 => ?_
      have hl1 := hz1.len
      have hv7' := ws_bx (ws := [u, [120] ++ TL.numL N, [58]]) (B6.same e7) m8 hv7
      have m08 := m07.trans m8
      refine at_cat (K := K) hv7' hv8 (by simp; omega) fun v9 H9 e9 hv9 => ?_
      dsimp only
      refine at_ret (at_op (at_op ⟨_, rfl, ?_⟩))
      refine (es_lst (K := K) (esa_cons (es_w [46]) esa_nil)).at fun v10 HA eA hv10 => ?_
      refine at_cat (K := K) (ws2 := [[46]]) (hv9.same eA) hv10 (by simp; omega) fun v11 HB eB hv11 => ?_
      have e8B := (e9.trans eA).trans eB
      have B8B := B8.same e8B
      have m0B := m08.trans (Mo.of e8B)
      refine at_call ⟨_, rfl, ⟨_, rfl, _, _, rfl, rfl, at_cons (at_op ⟨_, rfl, at_lst (at_cons ⟨_, rfl, ⟨by show 1 ≤ sizeLine; decide, fun p2 hp2 => ?_⟩⟩)⟩)⟩⟩
      have e2 := same_new hp2 (.lst [.int (N : Nat)])
      refine ⟨_, _, _, _, rfl, rfl, e2 _ _ (aK m0B), upd_same, by rw [arI, List.length_map]; exact len_small (by simp; omega), fun p3 hp3 => ?_⟩
      have hp3b := (B8B.same e2).ne hp3
      have e3' := e2.trans (same_new hp3 (.lst (arI ar ++ [.int (N : Nat)])))
      have m0D := m0B.trans (Mo.of e3')
      refine ⟨b, p3, _, ar ++ [N], by show [V.ref b, V.int (((e + 1 : Nat) : Int) - 1), V.ref p3] = _; rw [show ((e + 1 : Nat) : Int) - 1 = (e : Int) by omega], B8B.same e3', by omega, hp3b, by rw [show arI (ar ++ [N]) = arI ar ++ [V.int (N : Nat)] from List.map_append]; exact upd_same, fun k hk => ?_, by rw [List.length_append]; simp; omega, fun us2 v12 HE hz2 mE BE hv12 => ?_⟩
      · rcases List.mem_append.mp hk with h | h
        · exact har k h
        · rw [List.mem_singleton.mp h]; exact hN
      · have hl2 := hz2.len
        refine at_cat (K := K) (ws_bx (B8B.same e3') mE (hv11.same e3')) hv12 (by simp; omega) fun v13 HF eF hv13 => ?_
        exact q _ v13 HF ((((Wz.one huok huno).app (((Wz.leaf hxl).app (Wz.one (u := [58]) rfl (by decide))))).app (hz1.app ((Wz.one (u := [46]) rfl (by decide)).app hz2))).le (by show 1 + (1 + 1) + (nT e + (1 + nT e)) ≤ 1 + 3 * (1 + nT e); omega) (by show 1 + (1 + 1) + (kT e + (1 + kT e)) ≤ 1 + 3 * (4 + kT e); omega)) ((m0D.trans mE).trans (Mo.of eF)) ((BE.same eF).mono (by omega)) (by simpa using hv13)
    · dsimp only
      have m03 := m02.trans (Mo.of e3)
      have hw5 : 5 ≤ way := by
        have := of_decide_eq_false hb5
        omega
      refine at_asg (at_pt (K := K) (d := e + 1) rfl rfl rfl (B2.same e3) (by omega) hab (aK m03) har harl fun us1 v1 H4 hz1 m4 B4 hv1 => ?_)
      dsimp only
      have m04 := m03.trans m4
      refine at_asg (at_pt (K := K) (d := e + 1) rfl rfl rfl B4 (by omega) hab (aK m04) har harl fun us2 v2 H5 hz2 m5 B5 hv2 => ?_)
      dsimp only
      have m05 := m04.trans m5
      have hv1' := ws_bx B4 m5 hv1
      have hl1 := hz1.len
      have hl2 := hz2.len
      have hnp : nP (e + 1) = 1 + nT e := rfl
      have hkp : kP (e + 1) = 4 + kT e := rfl
      refine rd_if (b := decide ((way : Int) = 5)) (est_op (es_op od_eqI (es_var (K := K) (i := 3) rfl (.int _)) es_int)) (fun H6 e6 hb6 => ?_) (fun H6 e6 hb6 => ?_)
      · refine at_ret (at_op (at_op ⟨_, rfl, ?_⟩))
        refine (es_lst (K := K) (esa_cons (es_w [45, 62]) esa_nil)).at fun v6 H7 e7 hv6 => ?_
        have e57 := e6.trans e7
        refine at_cat (K := K) (ws1 := us1) (ws2 := [[45, 62]]) (hv1'.same e57) hv6 (by simp; omega) fun v7 H8 e8 hv7 => ?_
        have e58 := e57.trans e8
        have m08 := m05.trans (Mo.of e58)
        have B8 := B5.same e58
        refine at_tm (K := K) rfl rfl rfl B8 (by omega) hab (aK m08) har (by omega) fun us3 v8 H9 hz3 m9 B9 hv8 => ?_
        have hl3 := hz3.len
        refine at_cat (K := K) (ws_bx B8 m9 hv7) hv8 (by simp; omega) fun v9 HA eA hv9 => ?_
        exact q _ v9 HA (((hz1.app (Wz.one (u := [45, 62]) rfl (by decide))).app hz3).le (by show nP (e + 1) + 1 + nT e ≤ 1 + 3 * (1 + nT e); omega) (by show 4 + kT e + 1 + kT e ≤ 1 + 3 * (4 + kT e); omega)) ((m08.trans m9).trans (Mo.of eA)) ((B9.same eA).mono (by omega)) hv9
      · dsimp only
        refine rd_if (b := decide ((way : Int) = 6)) (est_op (es_op od_eqI (es_var (K := K) (i := 3) rfl (.int _)) es_int)) (fun H7 e7 hb7 => ?_) (fun H7 e7 hb7 => ?_)
        · refine at_ret (at_op (at_op ?_))
          refine (es_lst (K := K) (esa_cons (es_w [115, 101, 108, 102]) esa_nil)).at fun v6 H8 e8 hv6 => ⟨_, rfl, ?_⟩
          have e58 := (e6.trans e7).trans e8
          refine at_cat (K := K) (ws1 := [[115, 101, 108, 102]]) (ws2 := us1) hv6 (hv1'.same e58) (by simp; omega) fun v7 H9 e9 hv7 => ⟨_, rfl, ?_⟩
          have e59 := e58.trans e9
          refine at_cat (K := K) hv7 (hv2.same e59) (by simp; omega) fun v8 HA eA hv8 => ?_
          have e5A := e59.trans eA
          exact q _ v8 HA ((((Wz.one (u := [115, 101, 108, 102]) rfl (by decide)).app hz1).app hz2).le (by show 1 + nP (e + 1) + nP (e + 1) ≤ 1 + 3 * (1 + nT e); omega) (by show 1 + (4 + kT e) + (4 + kT e) ≤ 1 + 3 * (4 + kT e); omega)) (m05.trans (Mo.of e5A)) ((B5.same e5A).mono (by omega)) hv8
        · dsimp only
          refine at_ret (at_tif ((est_op (b := decide ((way : Int) = 7)) (es_op od_eqI (es_var (K := K) (i := 3) rfl (.int _)) es_int)).at fun H8 e8 => ?_))
          have e58 := (e6.trans e7).trans e8
          by_cases h7 : (way : Int) = 7
          · rw [decide_eq_true h7]
            refine iteT (at_op ⟨_, rfl, _, rfl, ?_⟩)
            refine at_cat (K := K) (hv1'.same e58) (hv2.same e58) (by omega) fun v8 HA eA hv8 => ?_
            have e5A := e58.trans eA
            exact q _ v8 HA ((hz1.app hz2).le (by show nP (e + 1) + nP (e + 1) ≤ 1 + 3 * (1 + nT e); omega) (by show (4 + kT e) + (4 + kT e) ≤ 1 + 3 * (4 + kT e); omega)) (m05.trans (Mo.of e5A)) ((B5.same e5A).mono (by omega)) hv8
          · rw [decide_eq_false h7]
            refine iteF (at_op (at_op (at_op (at_lst (at_cons (at_op ?_))))))
            refine (es_lst (K := K) (esa_cons (es_w [115, 97, 109, 101]) (esa_cons (es_w [112, 117, 116]) esa_nil))).at fun v6 H9 e9 hv6 => ?_
            have e59 := e58.trans e9
            refine at_take (K := K) rfl (B5.same e59) (by omega) (by decide) (by decide) es_int fun r HA mA BA hr2 => ?_
            obtain ⟨u, hu, hok, hno⟩ : ∃ u : Wd, ([[115, 97, 109, 101], [112, 117, 116]] : List Wd)[r]? = some u ∧ okWd u = true ∧ u ≠ wOpn := by
              rcases (by omega : r = 0 ∨ r = 1) with rfl | rfl
              · exact ⟨_, rfl, rfl, by decide⟩
              · exact ⟨_, rfl, rfl, by decide⟩
            have hix : L2.atI (wsD [[115, 97, 109, 101], [112, 117, 116]]) (r : Int) = some (wD u) := atI_nat (wsD_get hu)
            have hv6' := ws_bx (ws := [[115, 97, 109, 101], [112, 117, 116]]) (B5.same e59) mA hv6
            refine od_ixL hix HA v6 _ hv6' (.int _) _ fun v7 HB eB hv7 => ⟨by show 1 ≤ sizeLine; decide, fun p hp => ⟨_, rfl, ?_⟩⟩
            have eAC := eB.trans (same_new hp (.lst [v7]))
            have hv1A := (ws_bx (B5.same e59) mA (hv1'.same e59)).same eAC
            have hv2A := (ws_bx (B5.same e59) mA (hv2.same e59)).same eAC
            refine at_cat (K := K) (ws1 := [u]) (ws2 := us1) (.lst upd_same (.cons (hv7.same (same_new hp _)) .nil)) hv1A (by simp; omega) fun v8 HC eC hv8 => ⟨_, rfl, ?_⟩
            refine at_cat (K := K) hv8 (hv2A.same eC) (by simp; omega) fun v9 HD eD hv9 => ⟨_, rfl, ?_⟩
            refine at_cat (K := K) hv9 (hv1A.same (eC.trans eD)) (by simp; omega) fun v10 HE eE hv10 => ?_
            have eAE := ((eAC.trans eC).trans eD).trans eE
            exact q _ v10 HE (((((Wz.one hok hno).app hz1).app hz2).app hz1).le (by show 1 + nP (e + 1) + nP (e + 1) + nP (e + 1) ≤ 1 + 3 * (1 + nT e); omega) (by show 1 + (4 + kT e) + (4 + kT e) + (4 + kT e) ≤ 1 + 3 * (4 + kT e); omega)) (((m05.trans (Mo.of e59)).trans mA).trans (Mo.of eAE)) ((BA.same eAE).mono (by omega)) hv10
end
end K83
namespace K83
open PySem PySem.Spec PyProof.Rows L2
open C8 (Cal pe_c CalAt)
section
variable {P : Program} {w : World} {K : PySem.W.Frag} {mg : Str → Option Value} {base : Heap}
def spNever : Sp := fun _ _ _ _ => False
theorem c_term_never (T : Tx w K mg) : Cal P w K mg base 1 "_law_term_words" spNever [] := by
  obtain ⟨fd, F⟩ := T.d_law_term_words
  exact cal_of F (F.ok sc_law_term_words (fun vs H Q E h => h.elim) (fun cdv A outer s H vs Q E hr h => h.elim)) T.g_law_term_words
    fun _ _ _ _ _ _ us hl => match us, hl with | [_, _, _], _ => rfl
theorem c_both (T : Tx w K mg) : ∀ d, d ≤ 3 → Cal P w K mg base (3 + 2 * d) "_law_part_words" (spPt K d) [] ∧ Cal P w K mg base (4 + 2 * d) "_law_term_words" (spTm K d) []
  | 0, h => by
    have c0 := c_term_never (P := P) (base := base) T
    have cp := c_part (k := 2) T 0 h c0 (by decide) (by decide) (fun e he => by cases he)
    exact ⟨cp, c_term (k := 3) T 0 h c0 cp (by decide) (by decide) (by decide) (fun e he => by cases he)⟩
  | d + 1, h => by
    obtain ⟨_, ct⟩ := c_both T d (by omega)
    have cp := c_part (k := 2 + 2 * (d + 1)) T (d + 1) h ct (by omega) (by omega) (fun e he => by cases he; rfl)
    rw [show 2 + 2 * (d + 1) + 1 = 3 + 2 * (d + 1) by omega] at cp
    refine ⟨cp, ?_⟩
    have := c_term (k := 3 + 2 * (d + 1)) T (d + 1) h ct cp (by omega) (by omega) (by omega) (fun e he => by cases he; rfl)
    rw [show 3 + 2 * (d + 1) + 1 = 4 + 2 * (d + 1) by omega] at this
    exact this
theorem c_tm (T : Tx w K mg) {d : Nat} (h : d ≤ 3) : Cal P w K mg base (4 + 2 * d) "_law_term_words" (spTm K d) [] := (c_both T d h).2
end
end K83
namespace K83
open PySem PySem.Spec PyProof.Rows L2
open C8 (Cal pe_c CalAt)
section
variable {P : Program} {w : World} {K : PySem.W.Frag} {mg : Str → Option Value} {base : Heap}
/-! ### an open list of lists of words -/
def rwsD (rows : List (List Wd)) : List PyData := rows.map fun r => .list (wsD r)
theorem noBoxs_rows : ∀ rows : List (List Wd), noBoxs (rwsD rows) = true
  | [] => rfl
  | r :: rows => by
    have := noBoxs_rows rows
    simp only [rwsD, List.map_cons, noBoxs] at this ⊢
    rw [this, noBox_ws]
    rfl
theorem noBox_rows (rows : List (List Wd)) : noBox (.list (rwsD rows)) = true := by
  unfold noBox
  split
  · rename_i heq
    cases rows with
    | nil => cases heq
    | cons a r => cases heq
  · rename_i heq
    cases heq
    exact noBoxs_rows rows
  · rename_i heq
    cases heq
  · rfl
/-- at l lies the list of these rows; none is empty -/
def Fd (K : PySem.W.Frag) (H : Hp) (l : Addr) (rows : List (List Wd)) : Prop := ∃ xs, H l = some (.lst xs) ∧ DtA K H xs (rwsD rows) ∧ ∀ r ∈ rows, r ≠ []
variable {H H' : Hp} {l b : Addr} {n : Nat} {rows : List (List Wd)}
theorem Fd.same (h : Fd K H l rows) (e : Same H H') : Fd K H' l rows := let ⟨xs, h1, h2, h3⟩ := h; ⟨xs, e _ _ h1, h2.same e, h3⟩
theorem Fd.bx (h : Fd K H l rows) (hB : Bx H b n) (hl : l ≠ b) (e : Mo b H H') : Fd K H' l rows :=
  let ⟨xs, h1, h2, h3⟩ := h; ⟨xs, e _ _ hl h1, h2.bx hB e (noBoxs_rows rows), h3⟩
theorem rows_refs : ∀ {xs : List V} {rows : List (List Wd)}, DtA K H xs (rwsD rows) → ∀ x ∈ xs, ∃ p, x = .ref p
  | _, [], .nil => by simp
  | _, r :: rows, .cons h t => fun x hx => by
    rcases List.mem_cons.mp hx with rfl | hx
    · cases h with
      | lst h _ => exact ⟨_, rfl⟩
    · exact rows_refs t x hx
theorem ws_keep {xs : List V} {ws : List Wd} {v : V} (hl : H l = some (.lst xs)) (hx : ∀ x ∈ xs, ∃ p, x = .ref p) (hne : ws ≠ []) (e : Mo l H H') (h : Dt K H v (.list (wsD ws))) : Dt K H' v (.list (wsD ws)) := by
  cases h with
  | @lst a ys _ h1 r =>
    have hr := Dt.ws_eq r
    subst hr
    refine .lst (e a _ (fun z => ?_) h1) (dt_ws ws)
    rw [z, hl] at h1
    cases ws with
    | nil => exact hne rfl
    | cons w ws =>
      cases h1
      obtain ⟨p, hp⟩ := hx _ (List.mem_cons_self ..)
      cases hp
theorem rows_keep {xs : List V} (hl : H l = some (.lst xs)) (hx : ∀ x ∈ xs, ∃ p, x = .ref p) (e : Mo l H H') : ∀ {ys : List V} {rows : List (List Wd)}, (∀ r ∈ rows, r ≠ []) → DtA K H ys (rwsD rows) → DtA K H' ys (rwsD rows)
  | _, [], _, .nil => .nil
  | _, r :: rows, hn, .cons h t => .cons (ws_keep hl hx (hn r (List.mem_cons_self ..)) e h) (rows_keep hl hx e (fun r hr => hn r (List.mem_cons_of_mem _ hr)) t)
theorem Fd.app {r : List Wd} {v : V} (h : Fd K H l rows) (hv : Dt K H v (.list (wsD r))) (hr : r ≠ []) : ∃ xs, H l = some (.lst xs) ∧ xs.length = rows.length ∧ Fd K (upd H l (.lst (xs ++ [v]))) l (rows ++ [r]) := by
  obtain ⟨xs, h1, h2, h3⟩ := h
  have hx := rows_refs h2
  refine ⟨xs, h1, by rw [h2.len, rwsD, List.length_map], xs ++ [v], upd_same, ?_, fun r' hr' => ?_⟩
  · rw [show rwsD (rows ++ [r]) = rwsD rows ++ [.list (wsD r)] from List.map_append]
    exact (rows_keep h1 hx Mo.upd h3 h2).app (.one (ws_keep h1 hx hr Mo.upd hv))
  · rcases List.mem_append.mp hr' with z | z
    · exact h3 r' z
    · rw [List.mem_singleton.mp z]; exact hr
/-- found.append(e) -/
theorem at_appR {i : Nat} {te : TE} {σ : L2.St} {D : L2.Ends} (hs : σ[i]? = some (some (.ref l))) (hf : Fd K H l rows) (h : te σ H fun v H2 => rAppend (.ref l) [v] H2 fun _ H3 => D.nx σ H3) : tDrop (tBM K "list" rAppend (tVar i) (tCons te tNil)) D σ H := by
  obtain ⟨xs, h1, _⟩ := hf
  exact ⟨_, hs, .inl ⟨rfl, _, SqL.of h1⟩, h⟩
theorem app_row {v : V} {r : List Wd} {Q : VK} (hf : Fd K H l rows) (hl : rows.length < 1000) (hv : Dt K H v (.list (wsD r))) (hr : r ≠ []) (q : ∀ H3, Mo l H H3 → Fd K H3 l (rows ++ [r]) → Q .non H3) : rAppend (.ref l) [v] H Q := by
  obtain ⟨xs, h1, h2, h3⟩ := hf.app hv hr
  exact ⟨l, xs, v, rfl, rfl, h1, len_lt (by omega), q _ Mo.upd h3⟩
theorem Bx.mo (h : Bx H b n) (hl : l ≠ b) (e : Mo l H H') : Bx H' b n := by
  obtain ⟨x, y, z, hb, h2⟩ := h
  exact ⟨x, y, z, e _ _ hl.symm hb, h2⟩
end
end K83
namespace K83
open PySem PySem.Spec PyProof.Rows L2
open C8 (Cal pe_c CalAt)
section
variable {P : Program} {w : World} {K : PySem.W.Frag} {mg : Str → Option Value} {base : Heap}
variable {σ : L2.St} {H : Hp} {b : Addr} {n : Nat} {E : XK} {Q : VK}
theorem at_c {v : V} (h : Q v H) : tC v σ H Q := h
theorem Mo.skip {l : Addr} {H3 H4 : Hp} (e : Mo b H H3) (f : Mo l H3 H4) (hl : H l = none) : Mo b H H4 := fun a o hab q => f a o (by rintro rfl; rw [hl] at q; cases q) (e a o hab q)
theorem at_tk0 {m : Int} (hs : σ[0]? = some (some (.ref b))) (hB : Bx H b n) (hn : n ≤ 1000000) (h0 : 0 < m) (h1 : m < 1000000) (q : ∀ (k : Bool) H2, Mo b H H2 → Bx H2 b (n + 1) → Q (.bl k) H2) :
    tOp rEq (tCall (spTake K) [] E (tCons (tVar 0) (tCons (tC (.int m)) tNil))) (tC (.int 0)) σ H Q := by
  refine at_op (at_take (K := K) hs hB hn h0 h1 es_int fun r H2 m2 B2 hr => at_c ?_)
  exact od_eqI (K := K) H2 _ _ (.int _) (.int _) _ fun vb H3 e3 hvb => by
    cases hvb
    exact q _ H3 (m2.trans (Mo.of e3)) (B2.same e3)
abbrev rInt : List V → Hp → VK → Prop := fun xs H Q => (∃ i, xs = [V.int i] ∧ Q (V.int i) H) ∨ ∃ k, xs = [V.bl k] ∧ Q (V.int (if k = true then 1 else 0)) H
theorem at_i01 {m : Int} (hs : σ[0]? = some (some (.ref b))) (hB : Bx H b n) (hn : n ≤ 1000000) (h0 : 0 < m) (h1 : m < 1000000) (q : ∀ (k : Nat) H2, k < 2 → Mo b H H2 → Bx H2 b (n + 1) → Q (.int (k : Nat)) H2) :
    tCB rInt (tCons (tOp rEq (tCall (spTake K) [] E (tCons (tVar 0) (tCons (tC (.int m)) tNil))) (tC (.int 0))) tNil) σ H Q := by
  refine at_cb1 (at_tk0 (K := K) hs hB hn h0 h1 fun k H2 m2 B2 => .inr ⟨k, rfl, ?_⟩)
  cases k with
  | true => exact q 1 H2 (by decide) m2 B2
  | false => exact q 0 H2 (by decide) m2 B2
theorem at_bounds (hs : σ[0]? = some (some (.ref b))) (hB : Bx H b n) (hn : n + 5 ≤ 1000000) (q : ∀ (k : Nat) H2, k ≤ 4 → Mo b H H2 → Bx H2 b (n + 2) → Q (.int (k : Nat)) H2) :
    tIf (tTest (tOp rEq (tCall (spTake K) [] E (tCons (tVar 0) (tCons (tC (.int 4)) tNil))) (tC (.int 0))))
      (tOp (rIxL K) (tLst (tCons (tC (.int 0)) (tCons (tC (.int 1)) (tCons (tC (.int 2)) (tCons (tC (.int 3)) (tCons (tC (.int 4)) tNil)))))) (tOp (rI (fun x j => 0 < j) fun i j => .int (i % j)) (tCall (spTake K) [] E (tCons (tVar 0) (tCons (tC (.int 12)) tNil))) (tC (.int 5))))
      (tCall (spTake K) [] E (tCons (tVar 0) (tCons (tC (.int 3)) tNil))) σ H Q := by
  refine at_tif (at_tst (at_tk0 (K := K) hs hB (by omega) (by decide) (by decide) fun k H2 m2 B2 => ⟨_, rfl, ?_⟩))
  cases k with
  | true =>
    refine iteT (at_op (at_lst (at_cons (at_c (at_cons (at_c (at_cons (at_c (at_cons (at_c (at_cons (at_c ⟨by show 5 ≤ sizeLine; decide, fun p hp => ?_⟩))))))))))))
    have hpb := B2.ne hp
    refine at_op (at_take (K := K) hs (B2.same (same_new hp _)) (by omega) (by decide) (by decide) es_int fun r H3 m3 B3 hr => at_c ?_)
    refine ⟨_, _, rfl, rfl, by show (0 : Int) < 5; decide, ?_⟩
    have e5 : ((r : Int) % 5) = ((r % 5 : Nat) : Int) := by omega
    refine ⟨p, _, _, .int ((r % 5 : Nat) : Int), rfl, by show V.int ((r : Int) % 5) = V.int ((r % 5 : Nat) : Int); rw [e5], SqL.of (m3 _ _ hpb upd_same), atI_nat ?_, ?_⟩
    · rcases (by omega : r % 5 = 0 ∨ r % 5 = 1 ∨ r % 5 = 2 ∨ r % 5 = 3 ∨ r % 5 = 4) with h | h | h | h | h <;> rw [h] <;> rfl
    · exact q _ H3 (by omega) ((m2.trans (Mo.of (same_new hp _))).trans m3) B3
  | false => exact iteF (at_take (K := K) hs B2 (by omega) (by decide) (by decide) es_int fun r H3 m3 B3 hr => q r H3 (by omega) (m2.trans m3) B3)
theorem at_turns (hs : σ[0]? = some (some (.ref b))) (hB : Bx H b n) (hn : n + 5 ≤ 1000000) (q : ∀ (k : Nat) H2, k ≤ 6 → Mo b H H2 → Bx H2 b (n + 2) → Q (.int (k : Nat)) H2) :
    tOp (rI0 fun i j => V.int (i + j)) (tCall (spTake K) [] E (tCons (tVar 0) (tCons (tC (.int 4)) tNil)))
      (tOp (rI CMul fun i j => V.int (i * j)) (tC (.int 3)) (tCB rInt (tCons (tOp rEq (tCall (spTake K) [] E (tCons (tVar 0) (tCons (tC (.int 8)) tNil))) (tC (.int 0))) tNil))) σ H Q := by
  refine at_op (at_take (K := K) hs hB (by omega) (by decide) (by decide) es_int fun r H2 m2 B2 hr => at_op (at_c ?_))
  refine at_i01 (K := K) hs B2 (by omega) (by decide) (by decide) fun k H3 hk m3 B3 => ?_
  refine ⟨_, _, rfl, rfl, ?_, _, _, rfl, rfl, ?_⟩
  · exact .inl ⟨by decide, by decide⟩
  · show Q (.int ((r : Int) + 3 * (k : Int))) H3
    rw [show (r : Int) + 3 * (k : Int) = ((r + 3 * k : Nat) : Int) by omega]
    exact q _ H3 (by omega) (m2.trans m3) B3
theorem at_many (hs : σ[0]? = some (some (.ref b))) (hB : Bx H b n) (hn : n + 5 ≤ 1000000) (q : ∀ (k : Nat) H2, k ≤ 5 → Mo b H H2 → Bx H2 b (n + 3) → Q (.int (k : Nat)) H2) :
    tOp (rIxL K) (tLst (tCons (tCall (spTake K) [] E (tCons (tVar 0) (tCons (tC (.int 3)) tNil))) (tCons (tCall (spTake K) [] E (tCons (tVar 0) (tCons (tC (.int 6)) tNil))) tNil)))
      (tCB rInt (tCons (tOp rEq (tCall (spTake K) [] E (tCons (tVar 0) (tCons (tC (.int 4)) tNil))) (tC (.int 0))) tNil)) σ H Q := by
  refine at_op (at_lst (at_cons (at_take (K := K) hs hB (by omega) (by decide) (by decide) es_int fun r H2 m2 B2 hr => at_cons (at_take (K := K) hs B2 (by omega) (by decide) (by decide) es_int fun r3 H3 m3 B3 hr3 => ⟨by show 2 ≤ sizeLine; decide, fun p hp => ?_⟩))))
  have hpb := B3.ne hp
  refine at_i01 (K := K) hs (B3.same (same_new hp _)) (by omega) (by decide) (by decide) fun k H4 hk m4 B4 => ?_
  have m04 := ((m2.trans m3).trans (Mo.of (same_new hp _))).trans m4
  rcases (by omega : k = 0 ∨ k = 1) with rfl | rfl
  · exact ⟨p, _, _, .int (r : Nat), rfl, rfl, SqL.of (m4 _ _ hpb upd_same), atI_nat rfl, q _ H4 (by omega) m04 B4⟩
  · exact ⟨p, _, _, .int (r3 : Nat), rfl, rfl, SqL.of (m4 _ _ hpb upd_same), atI_nat rfl, q _ H4 (by omega) m04 B4⟩
theorem arI_range (k : Nat) : rgV 0 (k : Int) = arI (List.range k) := by
  unfold rgV arI
  rw [show ((k : Int) - 0).toNat = k by omega]
  apply List.map_congr_left
  intro i _
  show V.int (0 + (i : Int)) = V.int i
  rw [Int.zero_add]
/-- [h] + _law_term_words(box, d, list(range(k))) -/
theorem at_rgTm {h : Wd} {d k : Nat} {te : TE} (hs : σ[0]? = some (some (.ref b))) (hB : Bx H b n) (hn : n + bT d ≤ 1000000) (hh : leafOk h) (hk : k ≤ 20) (hd : d ≤ 3) (he : ∀ H', Es K te σ H' (.int (k : Nat)))
    (q : ∀ us v H2, Wz (1 + nT d) (1 + kT d) (h :: us) → Mo b H H2 → Bx H2 b (n + bT d) → Dt K H2 v (.list (wsD (h :: us))) → Q v H2) :
    tOp rCat (tLst (tCons (tC (wV h)) tNil)) (tCall (spTm K d) [] E (tCons (tVar 0) (tCons (tC (.int (d : Nat))) (tCons (tLstRg (tRg1 te)) tNil)))) σ H Q := by
  refine at_op ((es_lst (K := K) (esa_cons (es_w h (h := rfl)) esa_nil)).at fun v1 H1 e1 hv1 => ?_)
  refine at_call ⟨_, hs, at_cons (at_c (at_cons ?_))⟩
  refine (he H1).at fun x H2 e2 hx => ?_
  cases hx
  refine ⟨_, rfl, RgOk.of_le (by omega) (by omega) (by omega) (by omega), fun p hp => ?_⟩
  have B2 := (hB.same e1).same e2
  have hpb := B2.ne hp
  have e3 := same_new hp (.lst (rgV 0 (k : Int)))
  have e13 := (e1.trans e2).trans e3
  refine ⟨b, p, n, List.range k, rfl, B2.same e3, hn, hpb, by rw [← arI_range]; exact upd_same, fun i hi => ?_, by rw [List.length_range]; omega, fun us v H4 hz m4 B4 hv => ?_⟩
  · have := List.mem_range.mp hi
    omega
  · have hl := hz.len
    have hl2 := kT_le d hd
    refine at_cat (K := K) (ws1 := [h]) (ws_bx (ws := [h]) (B2.same e3) m4 (hv1.same (e2.trans e3))) hv (by simp; omega) fun v5 H5 e5 hv5 => ?_
    exact q us v5 H5 ((Wz.leaf hh).app hz) (((Mo.of e13).trans m4).trans (Mo.of e5)) (B4.same e5) hv5
end
end K83
namespace K83
open PySem PySem.Spec PyProof.Rows L2
open C8 (Cal pe_c CalAt)
section
variable {P : Program} {w : World} {K : PySem.W.Frag} {mg : Str → Option Value} {base : Heap}
/-! ### thing_words -/
def Wr (rows : List (List Wd)) : Prop := ∀ r ∈ rows, Wz 99 199 r
def spThW (K : PySem.W.Frag) : Sp := fun vs H Q _ => ∃ (b : Addr) (n : Nat) (nm : Wd), vs = [.ref b, wV nm] ∧ Bx H b n ∧ n + 10000 ≤ 1000000 ∧ leafOk nm ∧
  ∀ l rows H2, Wr rows → rows.length ≤ 41 → l ≠ b → H l = none → Mo b H H2 → Bx H2 b (n + 10000) → Fd K H2 l rows → Q (.ref l) H2
theorem at_for {te : TE} {g : TG} {tb : TS} {D : L2.Ends} {σ : L2.St} {H : Hp} (h : te σ H fun v H2 => tFor (iRng1 (tCons (tC v) tNil)) g tb D σ H2) : tFor (iRng1 (tCons te tNil)) g tb D σ H := h
abbrev N_law_thing_words : List Str := ["box", "name", "found", "bounds", "k", "turn"]
abbrev P_law_thing_words : List Str := ["box", "name"]
theorem sc_law_thing_words : FnScope N_law_thing_words P_law_thing_words (defScope s_law_thing_words) := ⟨rfl, rfl, rfl, by decide +kernel, rfl, by decide +kernel, by decide +kernel⟩
theorem c_law_thing_words (T : Tx w K mg) : Cal P w K mg base 9 "_law_thing_words" (spThW K) [] := by
  obtain ⟨fd, F⟩ := T.d_law_thing_words
  have c_law_take := c_law_take (P := P) (base := base) T
  have c_tm2 := c_tm (P := P) (base := base) T (d := 2) (by decide)
  have c_tm1 := c_tm (P := P) (base := base) T (d := 1) (by decide)
  refine cal_of F (F.ok sc_law_thing_words (fun vs H Q E h => by obtain ⟨_, _, _, rfl, _⟩ := h; rfl) (fun cdv A outer s H vs Q E hr h => ⟨_, PSs.nox ((pss_cons (ps_set (i := 2) sc_law_thing_words.nd rfl (Or.inl rfl) (pe_lst (pa_cons (pe_lst (pa_cons pe_str (pa_cons (pv 1) (pa_cons (pe_callTy call_strN rfl T.n_str b_str (pa_cons (pe_c c_law_take hr (by decide) rfl (pa_cons (pv 0) (pa_cons pe_int pa_nil))) pa_nil)) pa_nil)))) pa_nil)))
    (pss_cons (ps_set (i := 3) sc_law_thing_words.nd rfl (Or.inl rfl) (pe_ifExp (pt_cmpR op_eq (pe_c c_law_take hr (by decide) rfl (pa_cons (pv 0) (pa_cons pe_int pa_nil))) pe_int (nomark _)) (pe_ix (ix_listK (K := K)) (pe_lst (pa_cons pe_int (pa_cons pe_int (pa_cons pe_int (pa_cons pe_int (pa_cons pe_int pa_nil)))))) (pe_op op_mod (pe_c c_law_take hr (by decide) rfl (pa_cons (pv 0) (pa_cons pe_int pa_nil))) pe_int) (fun _ _ => rfl)) (pe_c c_law_take hr (by decide) rfl (pa_cons (pv 0) (pa_cons pe_int pa_nil)))))
    (pss_cons (ps_for PassesOwn.never rfl (pi_range1 (by rfl) T.n_range (pa_cons (pv 3) pa_nil)) (pg_name (i := 4) sc_law_thing_words.nd rfl (Or.inl rfl))
      (pss_one (ps_expr (pe_bm PySem.F.plainAttrs_list PySem.F.slot_list_append PySem.F.type_list_append mt_append (pv 2) (pa_cons (pe_op op_cat (pe_lst (pa_cons pe_str pa_nil)) (pe_c c_tm2 hr (by decide) rfl (pa_cons (pv 0) (pa_cons pe_int (pa_cons (pe_listRg rfl rfl T.n_list (prg_1 rfl T.n_range (pv 4))) pa_nil))))) pa_nil)))))
    (pss_cons (ps_for PassesOwn.never rfl (pi_range1 (by rfl) T.n_range (pa_cons (pe_op op_add (pe_c c_law_take hr (by decide) rfl (pa_cons (pv 0) (pa_cons pe_int pa_nil))) (pe_op op_mul pe_int (pe_callTy call_int1 rfl T.n_int b_int (pa_cons (pe_cmpR op_eq (pe_c c_law_take hr (by decide) rfl (pa_cons (pv 0) (pa_cons pe_int pa_nil))) pe_int (nomark _)) pa_nil)))) pa_nil)) (pg_name (i := 5) sc_law_thing_words.nd rfl (Or.inl rfl))
      (pss_cons (ps_expr (pe_bm PySem.F.plainAttrs_list PySem.F.slot_list_append PySem.F.type_list_append mt_append (pv 2) (pa_cons (pe_lst (pa_cons pe_str pa_nil)) pa_nil)))
    (pss_one (ps_for PassesOwn.never rfl (pi_range1 (by rfl) T.n_range (pa_cons (pe_ix (ix_listK (K := K)) (pe_lst (pa_cons (pe_c c_law_take hr (by decide) rfl (pa_cons (pv 0) (pa_cons pe_int pa_nil))) (pa_cons (pe_c c_law_take hr (by decide) rfl (pa_cons (pv 0) (pa_cons pe_int pa_nil))) pa_nil))) (pe_callTy call_int1 rfl T.n_int b_int (pa_cons (pe_cmpR op_eq (pe_c c_law_take hr (by decide) rfl (pa_cons (pv 0) (pa_cons pe_int pa_nil))) pe_int (nomark _)) pa_nil)) (fun _ _ => rfl)) pa_nil)) (pg_name (i := 4) sc_law_thing_words.nd rfl (Or.inl rfl))
      (pss_one (ps_expr (pe_bm PySem.F.plainAttrs_list PySem.F.slot_list_append PySem.F.type_list_append mt_append (pv 2) (pa_cons (pe_op op_cat (pe_lst (pa_cons pe_str pa_nil)) (pe_c c_tm1 hr (by decide) rfl (pa_cons (pv 0) (pa_cons pe_int (pa_cons (pe_listRg rfl rfl T.n_list (prg_1 rfl T.n_range (pe_op op_add (pv 3) (pv 4)))) pa_nil))))) pa_nil))))))))
    (pss_one (ps_ret (pv 2)))))))), ?_⟩)) T.g_law_thing_words
    fun _ _ _ _ _ _ us hl => match us, hl with | [_, _], _ => rfl
  obtain ⟨b, n, nm, rfl, hB, hn, hnm, q⟩ := h
  refine at_asg (at_lst (at_cons (at_lst (at_cons (at_c (at_cons ⟨_, rfl, at_cons (at_cb1 (at_take (K := K) rfl hB (by omega) (by decide) (by decide) es_int fun r0 H1 m1 B1 hr0 => ?_))⟩))))))
  refine .inl ⟨_, rfl, log_small (by omega), ?_⟩
  have hs0 := SX.num_S r0
  rw [show (toString ((r0 : Nat) : Int) : Str) = S (TL.numL r0) from hs0]
  refine ⟨by show 3 ≤ sizeLine; decide, fun p hp => ⟨by show 1 ≤ sizeLine; decide, fun l hl => ?_⟩⟩
  unfold gName
  dsimp only
  have hlb : l ≠ b := (B1.same (same_new hp _)).ne hl
  have e1p := same_new hp (.lst [wV wThing, wV nm, wV (TL.numL r0)])
  have e1l := e1p.trans (same_new hl (.lst [.ref p]))
  have hlH : H l = none := by
    cases z : H l with
    | none => rfl
    | some o => exact absurd (((m1.trans (Mo.of e1p)) l o hlb z).symm.trans hl) (by simp)
  obtain ⟨q1, q2⟩ := num_small r0 (by omega)
  have hw0 : Wz 99 199 [wThing, nm, TL.numL r0] := by
    have hnum : leafOk (TL.numL r0) := safe_leaf q1 (by rcases (by omega : r0 = 0 ∨ r0 = 1 ∨ r0 = 2 ∨ r0 = 3 ∨ r0 = 4 ∨ r0 = 5) with h | h | h | h | h | h <;> rw [h] <;> decide) (by omega)
    exact ((Wz.one (u := wThing) rfl (by decide)).app ((Wz.leaf hnm).app (Wz.leaf hnum))).le (by decide) (by decide)
  have f0 : Fd K (upd (upd H1 p (.lst [wV wThing, wV nm, wV (TL.numL r0)])) l (.lst [.ref p])) l [[wThing, nm, TL.numL r0]] :=
    ⟨[.ref p], upd_same, .cons (.lst (same_new hl _ _ _ upd_same) (dt_ws [wThing, nm, TL.numL r0])) .nil, by simp⟩
  have m1l := m1.trans (Mo.of e1l)
  have B1l := B1.same e1l
  refine at_asg (at_bounds (K := K) rfl B1l (by omega) fun bd H2 hbd m2 B2 => ?_)
  dsimp only
  have f2 := f0.bx B1l hlb m2
  have m02 := m1l.trans m2
  generalize upd (upd H1 p (.lst [wV wThing, wV nm, wV (TL.numL r0)])) l (.lst [.ref p]) = Hx at *
  have ap : ∀ (d : Nat) (h : Wd), leafOk h → d ≤ 2 → ∀ (us : List Wd), Wz (1 + nT d) (1 + kT d) (h :: us) → Wz 99 199 (h :: us) := fun d h hh hd us hz =>
    hz.le (by have := nT_le d (by omega); omega) (by have := kT_le d (by omega); omega)
  refine rd_forR (K := K) (n := bd) (es_var (i := 3) rfl (.int _)) (by omega) (fun i σ' H' => ∃ z4 rows, σ' = [some (.ref b), some (wV nm), some (.ref l), some (.int (bd : Nat)), z4, none] ∧ Wr rows ∧ rows.length = 1 + i ∧ Fd K H' l rows ∧ Mo b H H' ∧ Bx H' b (n + 3 + i * 900)) ?_ ?_ ?_
  · exact fun H3 e3 => ⟨none, _, rfl, fun r hr => by rw [List.mem_singleton.mp hr]; exact hw0, rfl, f2.same e3, m02.trans (Mo.of e3), (B2.same e3).mono (by omega)⟩
  · rintro i σ' H3 hi ⟨z4, rows, rfl, hW, hln, hf, m3, B3⟩
    refine at_appR rfl hf (at_rgTm (K := K) (h := wBound) (d := 2) (k := i) rfl B3 (by have := bT_le 2 (by decide); omega) ⟨rfl, by decide⟩ (by omega) (by decide) (fun H' => es_var (i := 4) rfl (.int _)) fun us v H4 hz m4 B4 hv => ?_)
    refine app_row (hf.bx B3 hlb m4) (by omega) hv (by simp) fun H5 m5 f5 => ?_
    exact ⟨_, _, rfl, fun r hr => (List.mem_append.mp hr).elim (hW r) fun z => by rw [List.mem_singleton.mp z]; exact ap 2 wBound ⟨rfl, by decide⟩ (by decide) us hz, by rw [List.length_append, hln]; simp; omega, f5, (m3.trans m4).skip m5 hlH, (B4.mo hlb m5).mono (by have : bT 2 = 832 := rfl; omega)⟩
  · rintro σ' H3 ⟨z4, rows, rfl, hW, hln, hf, m3, B3⟩
    dsimp only
    refine at_for (at_turns (K := K) rfl B3 (by omega) fun tn H4 htn m4 B4 => ?_)
    refine rd_forR (K := K) (n := tn) es_int (by omega) (fun i σ' H' => ∃ z4 z5 rows, σ' = [some (.ref b), some (wV nm), some (.ref l), some (.int (bd : Nat)), z4, z5] ∧ Wr rows ∧ rows.length ≤ 5 + i * 6 ∧ Fd K H' l rows ∧ Mo b H H' ∧ Bx H' b (n + 5 + bd * 900 + i * 600)) ?_ ?_ ?_
    · exact fun H5 e5 => ⟨_, _, rows, rfl, hW, by omega, (hf.bx B3 hlb m4).same e5, (m3.trans m4).trans (Mo.of e5), (B4.same e5).mono (by omega)⟩
    · rintro i σ' H5 hi ⟨z4, z5, rows, rfl, hW, hln, hf, m5, B5⟩
      refine at_appR rfl hf (at_lst (at_cons (at_c ⟨by show 1 ≤ sizeLine; decide, fun p6 hp6 => ?_⟩)))
      have e6 := same_new hp6 (.lst [wV wMaker])
      refine app_row (r := [wMaker]) (hf.same e6) (by omega) (.lst upd_same (dt_ws [wMaker])) (by simp) fun H7 m7 f7 => ?_
      have m07 := (m5.trans (Mo.of e6)).skip m7 hlH
      have B7 := (B5.same e6).mo hlb m7
      have hW7 : Wr (rows ++ [[wMaker]]) := fun r hr => (List.mem_append.mp hr).elim (hW r) fun z => by rw [List.mem_singleton.mp z]; exact (Wz.one (u := wMaker) rfl (by decide)).le (by decide) (by decide)
      dsimp only
      refine at_for (at_many (K := K) rfl B7 (by omega) fun mn H8 hmn m8 B8 => ?_)
      refine rd_forR (K := K) (n := mn) es_int (by omega) (fun j σ' H' => ∃ z4 rows, σ' = [some (.ref b), some (wV nm), some (.ref l), some (.int (bd : Nat)), z4, some (.int (i : Nat))] ∧ Wr rows ∧ rows.length ≤ 6 + i * 6 + j ∧ Fd K H' l rows ∧ Mo b H H' ∧ Bx H' b (n + 8 + bd * 900 + i * 600 + j * 104)) ?_ ?_ ?_
      · exact fun H9 e9 => ⟨_, _, rfl, hW7, by rw [List.length_append]; simp; omega, (f7.bx B7 hlb m8).same e9, (m07.trans m8).trans (Mo.of e9), (B8.same e9).mono (by omega)⟩
      · rintro j σ' H9 hj ⟨z4, rows, rfl, hW, hln, hf, m9, B9⟩
        refine at_appR rfl hf (at_rgTm (K := K) (h := wArg) (d := 1) (k := bd + j) rfl B9 (by have : bT 1 = 104 := rfl; omega) ⟨rfl, by decide⟩ (by omega) (by decide) (fun H' => (es_op od_add (es_var (i := 3) rfl (.int _)) (es_var (i := 4) rfl (.int _))).eq (by simp)) fun us v HA hz mA BA hv => ?_)
        refine app_row (hf.bx B9 hlb mA) (by omega) hv (by simp) fun HB mB fB => ?_
        exact ⟨_, _, rfl, fun r hr => (List.mem_append.mp hr).elim (hW r) fun z => by rw [List.mem_singleton.mp z]; exact ap 1 wArg ⟨rfl, by decide⟩ (by decide) us hz, by rw [List.length_append]; simp; omega, fB, (m9.trans mA).skip mB hlH, (BA.mo hlb mB).mono (by have : bT 1 = 104 := rfl; omega)⟩
      · rintro σ' H9 ⟨z4, rows, rfl, hW, hln, hf, m9, B9⟩
        exact ⟨_, _, rows, rfl, hW, by omega, hf, m9, B9.mono (by omega)⟩
    · rintro σ' H5 ⟨z4, z5, rows, rfl, hW, hln, hf, m5, B5⟩
      dsimp only
      exact at_ret ⟨_, rfl, q l rows H5 hW (by omega) hlb hlH m5 (B5.mono (by omega)) hf⟩
end
end K83
namespace K83
open PySem PySem.Spec PyProof.Rows L2
open C8 (Cal pe_c CalAt)
section
variable {P : Program} {w : World} {K : PySem.W.Frag} {mg : Str → Option Value} {base : Heap}
/-! ### strange -/
def strA : List Wd := [[], [109, 97, 107, 101, 114], [97, 114, 103, 32, 42, 48], [98, 111, 117, 110, 100, 32, 42, 48], [116, 104, 105, 110, 103, 32, 110, 117, 109], [116, 104, 105, 110, 103, 32, 110, 117, 109, 32, 54], [116, 104, 105, 110, 103, 32, 97, 108, 108, 32, 48], [116, 104, 105, 110, 103, 32, 110, 117, 109, 32, 51], [109, 101, 97, 110, 32, 97, 32, 58, 32, 42, 48]]
def strB : List Wd := [[109, 101, 97, 110, 32, 97, 32, 58, 32, 42, 48, 32, 61, 32, 42, 49], [104, 111, 108, 100, 32, 97, 32, 42, 48], [104, 111, 108, 100, 32, 97, 32, 58, 32, 42, 48], [109, 101, 97, 110, 32, 97, 32, 58, 32, 61, 32, 42, 48], [109, 101, 97, 110, 32, 97, 32, 42, 48, 32, 61, 32, 42, 48], [104, 111, 108, 100, 32, 97, 108, 108, 32, 58, 32, 42, 48]]
def strC : List Wd := [[97, 114, 103, 32, 120, 48], [98, 111, 117, 110, 100, 32, 120, 48], [97, 114, 103, 32, 120, 57], [109, 97, 107, 101, 114, 32, 109, 97, 107, 101, 114], [114, 111, 119, 115], [109, 101, 97, 110, 32, 61, 32, 58, 32, 42, 48, 32, 61, 32, 42, 48], [104, 111, 108, 100, 32, 98, 32, 58, 32, 42, 48, 32, 61, 32, 42, 48], [97, 114, 103]]
theorem str_all : ∀ t ∈ strA ++ strB ++ strC, (∀ u ∈ toks t, okWd u = true) ∧ cost 0 (toks t) ≤ 99 ∧ cost 3 (toks t) ≤ 199 ∧ (∀ c ∈ t, c < 128) ∧ t.length ≤ 100 := by decide +kernel
def spStr (K : PySem.W.Frag) : Sp := fun vs H Q _ => ∃ (b : Addr) (n : Nat), vs = [.ref b] ∧ Bx H b n ∧ n + 1 ≤ 1000000 ∧
  ∀ ws v H2, Wz 99 199 ws → Mo b H H2 → Bx H2 b (n + 1) → Dt K H2 v (.list (wsD ws)) → Q v H2
abbrev N_law_strange : List Str := ["box", "some"]
abbrev P_law_strange : List Str := ["box"]
theorem sc_law_strange : FnScope N_law_strange P_law_strange (defScope s_law_strange) := ⟨rfl, rfl, rfl, by decide +kernel, rfl, by decide +kernel, by decide +kernel⟩
theorem c_law_strange (T : Tx w K mg) : Cal P w K mg base 2 "_law_strange" (spStr K) [] := by
  obtain ⟨fd, F⟩ := T.d_law_strange
  have c_law_take := c_law_take (P := P) (base := base) T
  have c_law_words := c_law_words (P := P) (base := base) T
  refine cal_of F (F.ok sc_law_strange (fun vs H Q E h => by obtain ⟨_, _, rfl, _⟩ := h; rfl) (fun cdv A outer s H vs Q E hr h => ⟨_, PSs.nox ((pss_cons (ps_set (i := 1) sc_law_strange.nd rfl (Or.inl rfl) (pe_lst (pa_cons pe_str (pa_cons pe_str (pa_cons pe_str (pa_cons pe_str (pa_cons pe_str (pa_cons pe_str (pa_cons pe_str (pa_cons pe_str (pa_cons pe_str pa_nil)))))))))))
    (pss_cons (ps_set (i := 1) sc_law_strange.nd rfl (Or.inl rfl) (pe_op op_cat (pv 1) (pe_lst (pa_cons pe_str (pa_cons pe_str (pa_cons pe_str (pa_cons pe_str (pa_cons pe_str (pa_cons pe_str pa_nil)))))))))
    (pss_cons (ps_set (i := 1) sc_law_strange.nd rfl (Or.inl rfl) (pe_op op_cat (pv 1) (pe_lst (pa_cons pe_str (pa_cons pe_str (pa_cons pe_str (pa_cons pe_str (pa_cons pe_str (pa_cons pe_str (pa_cons pe_str (pa_cons pe_str pa_nil)))))))))))
    (pss_one (ps_ret (pe_c c_law_words hr (by decide) rfl (pa_cons (pe_ix (ix_listK (K := K)) (pv 1) (pe_c c_law_take hr (by decide) rfl (pa_cons (pv 0) (pa_cons pe_int pa_nil))) (fun _ _ => rfl)) pa_nil)))))))), ?_⟩)) T.g_law_strange
    fun _ _ _ _ _ _ us hl => match us, hl with | [_], _ => rfl
  obtain ⟨b, n, rfl, hB, hn, q⟩ := h
  refine rd_set (K := K) (d := .list (wsD strA)) (es_lst (esa_cons (es_w []) (esa_cons (es_w [109, 97, 107, 101, 114]) (esa_cons (es_w [97, 114, 103, 32, 42, 48]) (esa_cons (es_w [98, 111, 117, 110, 100, 32, 42, 48]) (esa_cons (es_w [116, 104, 105, 110, 103, 32, 110, 117, 109]) (esa_cons (es_w [116, 104, 105, 110, 103, 32, 110, 117, 109, 32, 54]) (esa_cons (es_w [116, 104, 105, 110, 103, 32, 97, 108, 108, 32, 48]) (esa_cons (es_w [116, 104, 105, 110, 103, 32, 110, 117, 109, 32, 51]) (esa_cons (es_w [109, 101, 97, 110, 32, 97, 32, 58, 32, 42, 48]) esa_nil)))))))))) fun v1 H1 e1 hv1 => ?_
  dsimp only
  refine rd_set (K := K) (d := .list (wsD strA ++ wsD strB)) (es_op (od_cat (by decide)) (es_var (i := 1) rfl hv1) (es_lst (esa_cons (es_w [109, 101, 97, 110, 32, 97, 32, 58, 32, 42, 48, 32, 61, 32, 42, 49]) (esa_cons (es_w [104, 111, 108, 100, 32, 97, 32, 42, 48]) (esa_cons (es_w [104, 111, 108, 100, 32, 97, 32, 58, 32, 42, 48]) (esa_cons (es_w [109, 101, 97, 110, 32, 97, 32, 58, 32, 61, 32, 42, 48]) (esa_cons (es_w [109, 101, 97, 110, 32, 97, 32, 42, 48, 32, 61, 32, 42, 48]) (esa_cons (es_w [104, 111, 108, 100, 32, 97, 108, 108, 32, 58, 32, 42, 48]) esa_nil)))))))) fun v2 H2 e2 hv2 => ?_
  dsimp only
  refine rd_set (K := K) (d := .list (wsD strA ++ wsD strB ++ wsD strC)) (es_op (od_cat (by decide)) (es_var (i := 1) rfl hv2) (es_lst (esa_cons (es_w [97, 114, 103, 32, 120, 48]) (esa_cons (es_w [98, 111, 117, 110, 100, 32, 120, 48]) (esa_cons (es_w [97, 114, 103, 32, 120, 57]) (esa_cons (es_w [109, 97, 107, 101, 114, 32, 109, 97, 107, 101, 114]) (esa_cons (es_w [114, 111, 119, 115]) (esa_cons (es_w [109, 101, 97, 110, 32, 61, 32, 58, 32, 42, 48, 32, 61, 32, 42, 48]) (esa_cons (es_w [104, 111, 108, 100, 32, 98, 32, 58, 32, 42, 48, 32, 61, 32, 42, 48]) (esa_cons (es_w [97, 114, 103]) esa_nil)))))))))) fun v3 H3 e3 hv3 => ?_
  dsimp only
  have e13 := (e1.trans e2).trans e3
  rw [show wsD strA ++ wsD strB ++ wsD strC = wsD (strA ++ strB ++ strC) from rfl] at hv3
  refine at_ret (at_call (at_cons (at_op ⟨_, rfl, ?_⟩)))
  refine at_take (K := K) rfl (hB.same e13) (by omega) (by decide) (by decide) es_int fun r H4 m4 B4 hr => ?_
  have hr' : r < (strA ++ strB ++ strC).length := by
    have : (strA ++ strB ++ strC).length = 23 := rfl
    omega
  have hg := List.getElem?_eq_getElem hr'
  obtain ⟨w1, w2, w3, w4, w5⟩ := str_all _ (List.getElem_mem hr')
  generalize (strA ++ strB ++ strC)[r] = t at hg w1 w2 w3 w4 w5
  have hv3' := ws_bx (hB.same e13) m4 hv3
  refine od_ixL (atI_nat (wsD_get hg)) H4 v3 _ hv3' (.int _) _ fun v5 H5 e5 hv5 => ?_
  exact ⟨[wD t], _, .cons hv5 .nil, ⟨t, rfl, by omega, rfl⟩, fun v H6 e6 hv => q _ v H6 ⟨w1, w2, w3⟩ (((Mo.of e13).trans m4).trans (Mo.of (e5.trans e6))) ((B4.same e5).same e6) hv⟩
end
end K83
namespace K83
open PySem PySem.Spec PyProof.Rows L2
open C8 (Cal pe_c CalAt)
section
variable {P : Program} {w : World} {K : PySem.W.Frag} {mg : Str → Option Value} {base : Heap}
/-! ### otherwise -/
/-- rows of at most this 3-cost -/
def WrC (C : Nat) (rows : List (List Wd)) : Prop := ∀ r ∈ rows, Wz (C - 100) C r
def spOth (K : PySem.W.Frag) : Sp := fun vs H Q _ => ∃ (b : Addr) (v0 : V) (n C : Nat) (rows : List (List Wd)), vs = [.ref b, v0] ∧ Bx H b n ∧ n + 5 ≤ 1000000 ∧ Dt K H v0 (.list (rwsD rows)) ∧ WrC C rows ∧ (199 ≤ C ∧ C ≤ 1000) ∧ rows.length < 1000 ∧
  ∀ rows2 v H2, WrC (C + 2) rows2 → rows2.length ≤ rows.length + 1 → Mo b H H2 → Bx H2 b (n + 5) → Dt K H2 v (.list (rwsD rows2)) → Q v H2
theorem es_toR {σ : L2.St} {H : Hp} {ta ti : TE} {rows : List (List Wd)} {k : Nat} (h : Es K ta σ H (.list (rwsD rows))) (hi : Es K ti σ H (.int (k : Nat))) : Es K (tSl (rSlL K) ta tNoPart (tPart ti)) σ H (.list (rwsD (rows.take k))) :=
  (es_sl sd_list h eso_no (eso_some hi)).eq (by rw [cut_to]; unfold rwsD; rw [List.map_take])
theorem es_fromR {σ : L2.St} {H : Hp} {ta ti : TE} {rows : List (List Wd)} {k : Nat} (h : Es K ta σ H (.list (rwsD rows))) (hi : Es K ti σ H (.int (k : Nat))) : Es K (tSl (rSlL K) ta (tPart ti) tNoPart) σ H (.list (rwsD (rows.drop k))) :=
  (es_sl sd_list h (eso_some hi) eso_no).eq (by rw [cut_from]; unfold rwsD; rw [List.map_drop])
theorem es_midR {σ : L2.St} {H : Hp} {ta ti tj : TE} {rows : List (List Wd)} {i k : Nat} (h : Es K ta σ H (.list (rwsD rows))) (hi : Es K ti σ H (.int (i : Nat))) (hj : Es K tj σ H (.int (k : Nat))) : Es K (tSl (rSlL K) ta (tPart ti) (tPart tj)) σ H (.list (rwsD ((rows.take k).drop i))) :=
  (es_sl sd_list h (eso_some hi) (eso_some hj)).eq (by rw [cut_mid]; unfold rwsD; rw [List.map_drop, List.map_take])
theorem es_catR {σ : L2.St} {H : Hp} {ta tb : TE} {r1 r2 : List (List Wd)} (h1 : Es K ta σ H (.list (rwsD r1))) (h2 : Es K tb σ H (.list (rwsD r2))) (hl : r1.length + r2.length ≤ 10000) : Es K (tOp rCat ta tb) σ H (.list (rwsD (r1 ++ r2))) :=
  (es_op (od_cat (by unfold rwsD; rw [List.length_map, List.length_map]; omega)) h1 h2).eq (by unfold rwsD; rw [List.map_append])
theorem WrC.le {C D : Nat} {rows : List (List Wd)} (h : WrC C rows) (hd : C ≤ D) : WrC D rows := fun r hr => (h r hr).le (by omega) hd
theorem WrC.sub {C : Nat} {rows rows2 : List (List Wd)} (h : WrC C rows) (hs : ∀ r ∈ rows2, r ∈ rows) : WrC C rows2 := fun r hr => h r (hs r hr)
theorem WrC.app {C : Nat} {rows rows2 : List (List Wd)} (h : WrC C rows) (g : WrC C rows2) : WrC C (rows ++ rows2) := fun r hr => (List.mem_append.mp hr).elim (h r) (g r)
theorem at_catR {r1 r2 : List (List Wd)} {v1 v2 : V} {H : Hp} {Q : VK} (h1 : Dt K H v1 (.list (rwsD r1))) (h2 : Dt K H v2 (.list (rwsD r2))) (hl : r1.length + r2.length ≤ 10000) (q : ∀ v H', Same H H' → Dt K H' v (.list (rwsD (r1 ++ r2))) → Q v H') : rCat v1 v2 H Q := by
  refine od_cat (K := K) (ds := rwsD r1) (es := rwsD r2) (by unfold rwsD; rw [List.length_map, List.length_map]; omega) H v1 v2 h1 h2 Q fun v H' e hv => q v H' e ?_
  rw [show rwsD (r1 ++ r2) = rwsD r1 ++ rwsD r2 from List.map_append]
  exact hv
def somO : List Wd := [[61], [58], [120, 48], [42, 48], [40], [41], [110, 117, 109], [97, 108, 108], [120, 49], [109, 97, 107, 101, 114], [54]]
theorem somO_ok : ∀ u ∈ somO, okWd u = true ∧ cost 3 [u] ≤ 3 := by decide
abbrev N_law_otherwise : List Str := ["box", "rows", "way", "at", "to", "place", "some"]
abbrev P_law_otherwise : List Str := ["box", "rows"]
theorem sc_law_otherwise : FnScope N_law_otherwise P_law_otherwise (defScope s_law_otherwise) := ⟨rfl, rfl, rfl, by decide +kernel, rfl, by decide +kernel, by decide +kernel⟩
theorem c_law_otherwise (T : Tx w K mg) : Cal P w K mg base 3 "_law_otherwise" (spOth K) [] := by
  obtain ⟨fd, F⟩ := T.d_law_otherwise
  have c_law_take := c_law_take (P := P) (base := base) T
  have c_law_strange := c_law_strange (P := P) (base := base) T
  refine cal_of F (F.ok sc_law_otherwise (fun vs H Q E h => by obtain ⟨_, _, _, _, _, rfl, _⟩ := h; rfl) (fun cdv A outer s H vs Q E hr h => ⟨_, PSs.nox ((pss_cons (ps_set (i := 2) sc_law_otherwise.nd rfl (Or.inl rfl) (pe_c c_law_take hr (by decide) rfl (pa_cons (pv 0) (pa_cons pe_int pa_nil))))
    (pss_cons (ps_set (i := 3) sc_law_otherwise.nd rfl (Or.inl rfl) (pe_c c_law_take hr (by decide) rfl (pa_cons (pv 0) (pa_cons (pe_op op_add (pe_callB (call_lenK (K := K)) rfl T.n_len PySem.boot_len (pa_cons (pv 1) pa_nil)) pe_int) pa_nil))))
    (pss_cons (ps_set (i := 4) sc_law_otherwise.nd rfl (Or.inl rfl) (pe_c c_law_take hr (by decide) rfl (pa_cons (pv 0) (pa_cons (pe_op op_add (pe_callB (call_lenK (K := K)) rfl T.n_len PySem.boot_len (pa_cons (pv 1) pa_nil)) pe_int) pa_nil))))
    (pss_cons (ps_if (pt_cmpR op_eq (pv 2) pe_int (nomark _)) (pss_one (ps_ret (pe_op op_cat (pe_slice (sl_listK (K := K)) (pv 1) po_none (po_some (pv 3))) (pe_slice (sl_listK (K := K)) (pv 1) (po_some (pe_op op_add (pv 3) pe_int)) po_none)))) pss_nil)
    (pss_cons (ps_if (pt_cmpR op_eq (pv 2) pe_int (nomark _)) (pss_one (ps_ret (pe_op op_cat (pe_op op_cat (pe_slice (sl_listK (K := K)) (pv 1) po_none (po_some (pv 4))) (pe_slice (sl_listK (K := K)) (pv 1) (po_some (pv 3)) (po_some (pe_op op_add (pv 3) pe_int)))) (pe_slice (sl_listK (K := K)) (pv 1) (po_some (pv 4)) po_none)))) pss_nil)
    (pss_cons (ps_if (pt_cmpR op_eq (pv 2) pe_int (nomark _)) (pss_one (ps_ret (pe_op op_cat (pe_op op_cat (pe_slice (sl_listK (K := K)) (pv 1) po_none (po_some (pv 3))) (pe_lst (pa_cons (pe_c c_law_strange hr (by decide) rfl (pa_cons (pv 0) pa_nil)) pa_nil))) (pe_slice (sl_listK (K := K)) (pv 1) (po_some (pv 3)) po_none)))) pss_nil)
    (pss_cons (ps_if (pt_cmpR op_eq (pv 2) pe_int (nomark _)) (pss_one (ps_ret (pe_op op_cat (pe_op op_cat (pe_slice (sl_listK (K := K)) (pv 1) po_none (po_some (pv 3))) (pe_lst (pa_cons (pe_c c_law_strange hr (by decide) rfl (pa_cons (pv 0) pa_nil)) pa_nil))) (pe_slice (sl_listK (K := K)) (pv 1) (po_some (pe_op op_add (pv 3) pe_int)) po_none)))) pss_nil)
    (pss_cons (ps_if (pt_cmpR op_eq (pv 2) pe_int (nomark _)) (pss_one (ps_ret (pe_op op_cat (pe_slice (sl_listK (K := K)) (pv 1) (po_some (pv 3)) po_none) (pe_slice (sl_listK (K := K)) (pv 1) po_none (po_some (pv 3)))))) pss_nil)
    (pss_cons (ps_if (PW.pt (pw_or (pt_cmpR op_eq (pv 3) (pe_callB (call_lenK (K := K)) rfl T.n_len PySem.boot_len (pa_cons (pv 1) pa_nil)) (nomark _)) (pw_or1 (pt_cmpR (op_eqEL (K := K) hr.units) (pe_ix (ix_listK (K := K)) (pv 1) (pv 3) (fun _ _ => rfl)) (pe_lst pa_nil) (nomark _))))) (pss_one (ps_ret (pv 1))) pss_nil)
    (pss_cons (ps_set (i := 5) sc_law_otherwise.nd rfl (Or.inl rfl) (pe_c c_law_take hr (by decide) rfl (pa_cons (pv 0) (pa_cons (pe_callB (call_lenK (K := K)) rfl T.n_len PySem.boot_len (pa_cons (pe_ix (ix_listK (K := K)) (pv 1) (pv 3) (fun _ _ => rfl)) pa_nil)) pa_nil))))
    (pss_cons (ps_set (i := 6) sc_law_otherwise.nd rfl (Or.inl rfl) (pe_lst (pa_cons pe_str (pa_cons pe_str (pa_cons pe_str (pa_cons pe_str (pa_cons pe_str (pa_cons pe_str (pa_cons pe_str (pa_cons pe_str (pa_cons pe_str (pa_cons pe_str (pa_cons pe_str pa_nil)))))))))))))
    (pss_one (ps_ret (pe_op op_cat (pe_op op_cat (pe_slice (sl_listK (K := K)) (pv 1) po_none (po_some (pv 3))) (pe_lst (pa_cons (pe_op op_cat (pe_op op_cat (pe_slice (sl_listK (K := K)) (pe_ix (ix_listK (K := K)) (pv 1) (pv 3) (fun _ _ => rfl)) po_none (po_some (pv 5))) (pe_lst (pa_cons (pe_ix (ix_listK (K := K)) (pv 6) (pe_c c_law_take hr (by decide) rfl (pa_cons (pv 0) (pa_cons pe_int pa_nil))) (fun _ _ => rfl)) pa_nil))) (pe_slice (sl_listK (K := K)) (pe_ix (ix_listK (K := K)) (pv 1) (pv 3) (fun _ _ => rfl)) (po_some (pe_op op_add (pv 5) pe_int)) po_none)) pa_nil))) (pe_slice (sl_listK (K := K)) (pv 1) (po_some (pe_op op_add (pv 3) pe_int)) po_none)))))))))))))))), ?_⟩)) T.g_law_otherwise
    fun _ _ _ _ _ _ us hl => match us, hl with | [_, _], _ => rfl
  obtain ⟨b, v0, n, C, rows, rfl, hB, hn, hv0, hW, ⟨hC, hC2⟩, hlr, q⟩ := h
  have hrl : (rwsD rows).length = rows.length := by unfold rwsD; rw [List.length_map]
  refine at_asg (at_take (K := K) rfl hB (by omega) (by decide) (by decide) es_int fun way H1 m1 B1 hway => ?_)
  dsimp only [gName]
  have hv1 := hv0.bx hB m1 (noBox_rows rows)
  refine at_asg (at_take (K := K) (m := ((rwsD rows).length : Nat) + 1) rfl B1 (by omega) (by omega) (by omega) (es_op od_add (es_b cb_lenL (esa_cons (es_var (i := 1) rfl hv1) esa_nil)) es_int) fun at1 H2 m2 B2 hat => ?_)
  dsimp only
  have hv2 := hv1.bx B1 m2 (noBox_rows rows)
  refine at_asg (at_take (K := K) (m := ((rwsD rows).length : Nat) + 1) rfl B2 (by omega) (by omega) (by omega) (es_op od_add (es_b cb_lenL (esa_cons (es_var (i := 1) rfl hv2) esa_nil)) es_int) fun to1 H3 m3 B3 hto => ?_)
  dsimp only
  have hv3 := hv2.bx B2 m3 (noBox_rows rows)
  have m03 := (m1.trans m2).trans m3
  rw [hrl] at hat hto
  have V1 : ∀ {H'} {z5 z6 : Option V}, Same H3 H' → Es K (tVar 1) [some (.ref b), some v0, some (.int (way : Nat)), some (.int (at1 : Nat)), some (.int (to1 : Nat)), z5, z6] H' (.list (rwsD rows)) := fun e => es_var (i := 1) rfl (hv3.same e)
  have A1 : ∀ {H'} {z5 z6 : Option V}, Es K (tVar 3) [some (.ref b), some v0, some (.int (way : Nat)), some (.int (at1 : Nat)), some (.int (to1 : Nat)), z5, z6] H' (.int (at1 : Nat)) := fun {H' z5 z6} => es_var (i := 3) rfl (.int _)
  have A11 : ∀ {H'} {z5 z6 : Option V}, Es K (tOp (rI0 fun i j => .int (i + j)) (tVar 3) (tC (.int 1))) [some (.ref b), some v0, some (.int (way : Nat)), some (.int (at1 : Nat)), some (.int (to1 : Nat)), z5, z6] H' (.int ((at1 + 1 : Nat) : Int)) := fun {H' z5 z6} => (es_op od_add A1 es_int).eq (by simp)
  have T1 : ∀ {H'} {z5 z6 : Option V}, Es K (tVar 4) [some (.ref b), some v0, some (.int (way : Nat)), some (.int (at1 : Nat)), some (.int (to1 : Nat)), z5, z6] H' (.int (to1 : Nat)) := fun {H' z5 z6} => es_var (i := 4) rfl (.int _)
  have tk : ∀ {k : Nat}, WrC (C + 2) (rows.take k) := fun {k} => (hW.le (by omega)).sub fun r hr => List.mem_of_mem_take hr
  have dr : ∀ {k : Nat}, WrC (C + 2) (rows.drop k) := fun {k} => (hW.le (by omega)).sub fun r hr => List.mem_of_mem_drop hr
  refine rd_if (b := decide ((way : Int) = 0)) (est_op (es_op od_eqI (es_var (K := K) (i := 2) rfl (.int _)) es_int)) (fun H4 e4 hb => ?_) (fun H4 e4 hb => ?_)
  · refine rd_ret (es_catR (es_toR (V1 e4) A1) (es_fromR (V1 e4) A11) (by simp; omega)) fun v H5 e5 hv => ?_
    exact q _ v H5 (tk.app dr) (by simp; omega) (m03.trans (Mo.of (e4.trans e5))) ((B3.same (e4.trans e5)).mono (by omega)) hv
  dsimp only [tNext]
  refine rd_if (b := decide ((way : Int) = 1)) (est_op (es_op od_eqI (es_var (K := K) (i := 2) rfl (.int _)) es_int)) (fun H5 e5 hb => ?_) (fun H5 e5 hb => ?_)
  · have e35 := e4.trans e5
    refine rd_ret (es_catR (es_catR (es_toR (V1 e35) T1) (es_midR (V1 e35) A1 A11) (by simp; omega)) (es_fromR (V1 e35) T1) (by simp; omega)) fun v H6 e6 hv => ?_
    exact q _ v H6 ((tk.app (tk.sub fun r hr => List.mem_of_mem_drop hr)).app dr) (by simp; omega) (m03.trans (Mo.of (e35.trans e6))) ((B3.same (e35.trans e6)).mono (by omega)) hv
  dsimp only
  have str : ∀ {H'} {z5 z6 : Option V} {Q' : List V → Hp → Prop} {E' : XK}, Same H3 H' → (∀ ws v H2, Wz 99 199 ws → Mo b H' H2 → Bx H2 b (n + 4) → Dt K H2 v (.list (wsD ws)) → Q' [v] H2) →
      tCons (tCall (spStr K) [] E' (tCons (tVar 0) tNil)) tNil [some (.ref b), some v0, some (.int (way : Nat)), some (.int (at1 : Nat)), some (.int (to1 : Nat)), z5, z6] H' Q' := fun {H' z5 z6 Q' E'} e k =>
    at_cons (at_call ⟨_, rfl, b, n + 3, rfl, (B3.same e).mono (by omega), by omega, fun ws v H2 hz m2 B2 hv => k ws v H2 hz m2 B2 hv⟩)
  have oneR : ∀ {H' : Hp} {v : V} {ws : List Wd} {p : Addr}, Dt K H' v (.list (wsD ws)) → H' p = none → Dt K (upd H' p (.lst [v])) (.ref p) (.list (rwsD [ws])) := fun {H' v ws p} hv hp => .lst upd_same (.cons (hv.same (same_new hp _)) .nil)
  refine rd_if (b := decide ((way : Int) = 2)) (est_op (es_op od_eqI (es_var (K := K) (i := 2) rfl (.int _)) es_int)) (fun H6 e6 hb => ?_) (fun H6 e6 hb => ?_)
  · have e36 := (e4.trans e5).trans e6
    refine at_ret (at_op (at_op ((es_toR (V1 e36) A1).at fun v7 H7 e7 hv7 => at_lst ?_)))
    have e37 := e36.trans e7
    refine str e37 fun ws v8 H8 hz m8 B8 hv8 => ⟨by show 1 ≤ sizeLine; decide, fun p hp => ?_⟩
    have B37 := B3.same e37
    have e89 := same_new hp (.lst [v8])
    refine at_catR (K := K) (r1 := rows.take at1) (r2 := [ws]) ((hv7.bx B37 m8 (noBox_rows _)).same e89) (oneR hv8 hp) (by simp; omega) fun v9 H9 e9 hv9 => ?_
    have hv09 := (((hv3.same e37).bx B37 m8 (noBox_rows rows)).same e89).same e9
    refine (es_fromR (k := at1) (es_var (i := 1) rfl hv09) A1).at fun v10 HA eA hv10 => ?_
    refine at_catR (K := K) (hv9.same eA) hv10 (by simp; omega) fun v11 HB eB hv11 => ?_
    have e8B := ((e89.trans e9).trans eA).trans eB
    exact q _ v11 HB ((tk.app fun r hr => by rw [List.mem_singleton.mp hr]; exact hz.le (by omega) (by omega)).app dr) (by simp; omega) (((m03.trans (Mo.of e37)).trans m8).trans (Mo.of e8B)) ((B8.same e8B).mono (by omega)) hv11
  dsimp only
  refine rd_if (b := decide ((way : Int) = 3)) (est_op (es_op od_eqI (es_var (K := K) (i := 2) rfl (.int _)) es_int)) (fun H6' e6' hb => ?_) (fun H6' e6' hb => ?_)
  · have e36 := ((e4.trans e5).trans e6).trans e6'
    refine at_ret (at_op (at_op ((es_toR (V1 e36) A1).at fun v7 H7 e7 hv7 => at_lst ?_)))
    have e37 := e36.trans e7
    refine str e37 fun ws v8 H8 hz m8 B8 hv8 => ⟨by show 1 ≤ sizeLine; decide, fun p hp => ?_⟩
    have B37 := B3.same e37
    have e89 := same_new hp (.lst [v8])
    refine at_catR (K := K) (r1 := rows.take at1) (r2 := [ws]) ((hv7.bx B37 m8 (noBox_rows _)).same e89) (oneR hv8 hp) (by simp; omega) fun v9 H9 e9 hv9 => ?_
    have hv09 := (((hv3.same e37).bx B37 m8 (noBox_rows rows)).same e89).same e9
    refine (es_fromR (k := at1 + 1) (es_var (i := 1) rfl hv09) A11).at fun v10 HA eA hv10 => ?_
    refine at_catR (K := K) (hv9.same eA) hv10 (by simp; omega) fun v11 HB eB hv11 => ?_
    have e8B := ((e89.trans e9).trans eA).trans eB
    exact q _ v11 HB ((tk.app fun r hr => by rw [List.mem_singleton.mp hr]; exact hz.le (by omega) (by omega)).app dr) (by simp; omega) (((m03.trans (Mo.of e37)).trans m8).trans (Mo.of e8B)) ((B8.same e8B).mono (by omega)) hv11
  dsimp only
  refine rd_if (b := decide ((way : Int) = 4)) (est_op (es_op od_eqI (es_var (K := K) (i := 2) rfl (.int _)) es_int)) (fun H7 e7 hb => ?_) (fun H7 e7 hb => ?_)
  · have e37 := (((e4.trans e5).trans e6).trans e6').trans e7
    refine rd_ret (es_catR (es_fromR (V1 e37) A1) (es_toR (V1 e37) A1) (by simp; omega)) fun v H8 e8 hv => ?_
    exact q _ v H8 (dr.app tk) (by simp; omega) (m03.trans (Mo.of (e37.trans e8))) ((B3.same (e37.trans e8)).mono (by omega)) hv
  have e37 := (((e4.trans e5).trans e6).trans e6').trans e7
  have lenE : ∀ {H'} {z5 z6 : Option V}, Same H3 H' → Es K (tCB (rLen K) (tCons (tVar 1) tNil)) [some (.ref b), some v0, some (.int (way : Nat)), some (.int (at1 : Nat)), some (.int (to1 : Nat)), z5, z6] H' (.int (rows.length : Nat)) := fun e => (es_b cb_lenL (esa_cons (V1 e) esa_nil)).eq (by rw [hrl])
  have hge : ∀ {k : Nat} {r : List Wd}, rows[k]? = some r → (rwsD rows)[k]? = some (.list (wsD r)) := fun {k r} h => by unfold rwsD; rw [List.getElem?_map, h]; rfl
  have cp : ∀ {r : List Wd}, r ∈ rows → ∀ w ∈ r, Cp w := fun {r} hr w hw c hc => by
    obtain ⟨h | h | ⟨_, h⟩, _⟩ := okWd_inv ((hW r hr).ok w hw)
    · rw [h] at hc; rw [List.mem_singleton.mp hc]; decide
    · rw [h] at hc; rw [List.mem_singleton.mp hc]; decide
    · have := List.all_eq_true.mp h c hc
      simp [safe] at this
      omega
  obtain ⟨bb, hbb, hbT⟩ : ∃ bb : Bool, EsT (tOr (tTest (tOp rEq (tVar 3) (tCB (rLen K) (tCons (tVar 1) tNil)))) (tTest (tOp (rEqEL K) (tOp (rIxL K) (tVar 1) (tVar 3)) (tLst tNil)))) [some (.ref b), some v0, some (.int (way : Nat)), some (.int (at1 : Nat)), some (.int (to1 : Nat)), none, none] H7 bb ∧ (bb = false → ∃ r, rows[at1]? = some r ∧ r ≠ []) := by
    by_cases hc : at1 = rows.length
    · refine ⟨_, est_or (b := false) (est_op (es_op od_eqI A1 (lenE e37))) (fun h => absurd h (by simp [hc])), fun h => ?_⟩
      simp [hc] at h
    · have hlt : at1 < rows.length := by omega
      have hg := List.getElem?_eq_getElem hlt
      refine ⟨_, est_or (est_op (es_op od_eqI A1 (lenE e37))) fun _ => est_op (es_op (od_eqEL (show PyData.canLay0 (.list (wsD rows[at1])) = true from lay_ws _ (cp (List.getElem_mem hlt)))) (es_op (od_ixL (atI_nat (hge hg))) (V1 e37) A1) (es_lst esa_nil)), fun h => ⟨_, hg, ?_⟩⟩
      intro z
      rw [z] at h
      simp [wsD] at h
  refine rd_if (b := bb) hbb (fun H8 e8 hb2 => ?_) (fun H8 e8 hb2 => ?_)
  · have e38 := e37.trans e8
    exact rd_ret (V1 e38) fun v H9 e9 hv => q rows v H9 (hW.le (by omega)) (by omega) (m03.trans (Mo.of (e38.trans e9))) ((B3.same (e38.trans e9)).mono (by omega)) hv
  obtain ⟨r, hg, hr0⟩ := hbT hb2
  have e38 := e37.trans e8
  have hrm : r ∈ rows := List.mem_of_getElem? hg
  have hz := hW r hrm
  have hrn := hz.len
  have hrp : 0 < r.length := List.length_pos_iff.mpr hr0
  have hwl : (wsD r).length = r.length := wsD_len r
  dsimp only
  refine at_asg (at_take (K := K) (m := ((wsD r).length : Nat)) rfl (B3.same e38) (by omega) (by omega) (by omega) (es_b cb_lenL (esa_cons (es_op (od_ixL (atI_nat (hge hg))) (V1 e38) A1) esa_nil)) fun pl H9 m9 B9 hpl => ?_)
  dsimp only
  have hv9 := (hv3.same e38).bx (B3.same e38) m9 (noBox_rows rows)
  refine rd_set (K := K) (d := .list (wsD somO)) (es_lst (esa_cons (es_w [61]) (esa_cons (es_w [58]) (esa_cons (es_w [120, 48]) (esa_cons (es_w [42, 48]) (esa_cons (es_w [40]) (esa_cons (es_w [41]) (esa_cons (es_w [110, 117, 109]) (esa_cons (es_w [97, 108, 108]) (esa_cons (es_w [120, 49]) (esa_cons (es_w [109, 97, 107, 101, 114]) (esa_cons (es_w [54]) esa_nil)))))))))))) fun v6 HA eA hv6 => ?_
  dsimp only
  have B9A := B9.same eA
  have hvA := hv9.same eA
  have m0A := ((m03.trans (Mo.of e38)).trans m9).trans (Mo.of eA)
  refine at_ret (at_op (at_op ((es_toR (k := at1) (es_var (i := 1) rfl hvA) A1).at fun v7 HB eB hv7 => at_lst (at_cons (at_op (at_op ?_))))))
  have c1 : cutD (wsD r) none (some (pl : Int)) = wsD (r.take pl) := by rw [cut_to]; unfold wsD; rw [List.map_take]
  refine (es_sl sd_list (es_op (od_ixL (atI_nat (hge hg))) (es_var (K := K) (i := 1) rfl (hvA.same eB)) A1) eso_no (eso_some (K := K) (es_var (i := 5) rfl (.int (pl : Nat))))).at fun v8 HC eC hv8 => at_lst (at_cons (at_op ⟨_, rfl, ?_⟩))
  rw [c1] at hv8
  have eAC := eB.trans eC
  have BC := B9A.same eAC
  refine at_take (K := K) rfl BC (by omega) (by decide) (by decide) es_int fun r11 HD mD BD hr11 => ?_
  have hr11' : r11 < somO.length := by
    have : somO.length = 11 := rfl
    omega
  have hgu := List.getElem?_eq_getElem hr11'
  obtain ⟨hu1, hu2⟩ := somO_ok _ (List.getElem_mem hr11')
  generalize somO[r11] = u at hgu hu1 hu2
  refine od_ixL (atI_nat (wsD_get hgu)) HD v6 _ (ws_bx (ws := somO) BC mD (hv6.same eAC)) (.int _) _ fun v12 HE eE hv12 => ⟨by show 1 ≤ sizeLine; decide, fun p hp => ?_⟩
  have eDp := eE.trans (same_new hp (.lst [v12]))
  refine at_cat (K := K) (ws1 := r.take pl) (ws2 := [u]) ((ws_bx BC mD hv8).same eDp) (.lst upd_same (.cons (hv12.same (same_new hp _)) .nil)) (by simp; omega) fun v13 HF eF hv13 => ?_
  have eDF := eDp.trans eF
  have hvF := ((hvA.same eAC).bx BC mD (noBox_rows rows)).same eDF
  have c2 : cutD (wsD r) (some ((pl + 1 : Nat) : Int)) none = wsD (r.drop (pl + 1)) := by rw [cut_from]; unfold wsD; rw [List.map_drop]
  refine (es_sl sd_list (es_op (od_ixL (atI_nat (hge hg))) (es_var (K := K) (i := 1) rfl hvF) A1) (eso_some (K := K) ((es_op od_add (es_var (i := 5) rfl (.int (pl : Nat))) es_int).eq (show PyData.int ((pl : Int) + 1) = .int ((pl + 1 : Nat) : Int) by simp))) eso_no).at fun v14 HG eG hv14 => ?_
  rw [c2] at hv14
  refine at_cat (K := K) (hv13.same eG) hv14 (by simp; omega) fun v15 HI eI hv15 => ⟨by show 1 ≤ sizeLine; decide, fun p2 hp2 => ?_⟩
  have eDI := ((eDF.trans eG).trans eI).trans (same_new hp2 (.lst [v15]))
  refine at_catR (K := K) (r1 := rows.take at1) (r2 := [r.take pl ++ [u] ++ r.drop (pl + 1)]) (((hv7.same eC).bx BC mD (noBox_rows _)).same eDI) (oneR hv15 hp2) (by simp; omega) fun v16 HJ eJ hv16 => ?_
  have hvJ := (((hvA.same eAC).bx BC mD (noBox_rows rows)).same eDI).same eJ
  refine (es_fromR (k := at1 + 1) (es_var (i := 1) rfl hvJ) A11).at fun v17 HK eK hv17 => ?_
  refine at_catR (K := K) (hv16.same eK) hv17 (by simp; omega) fun v18 HL eL hv18 => ?_
  have eDL := ((eDI.trans eJ).trans eK).trans eL
  have hpl' : pl < r.length := by omega
  have hnew : Wz (C + 2 - 100) (C + 2) (r.take pl ++ [u] ++ r.drop (pl + 1)) := by
    refine ⟨fun x hx => ?_, ?_, ?_⟩
    · rcases List.mem_append.mp hx with h | h
      · rcases List.mem_append.mp h with h | h
        · exact hz.ok x (List.mem_of_mem_take h)
        · rw [List.mem_singleton.mp h]; exact hu1
      · exact hz.ok x (List.mem_of_mem_drop h)
    · have h2 : cost 0 (r.take pl ++ r.drop pl) = cost 0 r := by rw [List.take_append_drop]
      rw [cost_app] at h2
      have h3 := cost_drop_le (p := 0) r pl (pl + 1) (by omega)
      have h4 := hz.zer
      have h5 : cost 0 [u] ≤ 1 := by unfold cost cw; simp; split <;> omega
      rw [cost_app, cost_app]
      omega
    · have h1 := cost_step 3 hpl'
      have h2 : cost 3 (r.take pl ++ r.drop pl) = cost 3 r := by rw [List.take_append_drop]
      rw [cost_app] at h2
      have h3 : 1 ≤ cw 3 (hd (r.drop pl)) := by unfold cw; split <;> omega
      have h4 := hz.low
      rw [cost_app, cost_app]
      omega
  exact q _ v18 HL ((tk.app fun x hx => by rw [List.mem_singleton.mp hx]; exact hnew).app dr) (by simp; omega) (((m0A.trans (Mo.of eAC)).trans mD).trans (Mo.of eDL)) ((BD.same eDL).mono (by omega)) hv18
end
end K83
namespace K83
open PySem PySem.Spec PyProof.Rows L2
open C8 (Cal pe_c CalAt)
section
variable {P : Program} {w : World} {K : PySem.W.Frag} {mg : Str → Option Value} {base : Heap}
/-! ### rows_words -/
def spRws (K : PySem.W.Frag) : Sp := fun vs H Q _ => ∃ (b : Addr) (n : Nat), vs = [.ref b] ∧ Bx H b n ∧ n + 60000 ≤ 1000000 ∧
  ∀ rows v H2, WrC 199 rows → rows.length ≤ 60 → Mo b H H2 → Bx H2 b (n + 60000) → Dt K H2 v (.list (rwsD rows)) → Q v H2
theorem at_tm0 {σ : L2.St} {H : Hp} {b : Addr} {n d : Nat} {E : XK} {Q : VK} (hs : σ[0]? = some (some (.ref b))) (hB : Bx H b n) (hn : n + bT d ≤ 1000000) (hd : d ≤ 3)
    (q : ∀ us v H2, Wz (nT d) (kT d) us → Mo b H H2 → Bx H2 b (n + bT d) → Dt K H2 v (.list (wsD us)) → Q v H2) :
    tCall (spTm K d) [] E (tCons (tVar 0) (tCons (tC (.int (d : Nat))) (tCons (tLst tNil) tNil))) σ H Q := by
  refine at_call ⟨_, hs, at_cons (at_c (at_cons (at_lst ⟨by show 0 ≤ sizeLine; decide, fun p hp => ?_⟩)))⟩
  exact ⟨b, p, n, [], rfl, hB.same (same_new hp _), hn, hB.ne hp, upd_same, by simp, by simp; omega, fun us v H2 hz m2 B2 hv => q us v H2 hz ((Mo.of (same_new hp _)).trans m2) B2 hv⟩
theorem cb_intB {k : Bool} : CbD K rInt [.bool k] (.int (if k = true then 1 else 0)) := fun H vs h0 Q q => by
  obtain ⟨v, rfl, h⟩ := h0.one_inv
  cases h
  exact .inr ⟨k, rfl, q _ _ (Same.refl H) (.int _)⟩
abbrev N_law_rows_words : List Str := ["box", "small", "large", "twice", "shift", "nouns", "found", "k", "name", "way"]
abbrev P_law_rows_words : List Str := ["box"]
theorem sc_law_rows_words : FnScope N_law_rows_words P_law_rows_words (defScope s_law_rows_words) := ⟨rfl, rfl, rfl, by decide +kernel, rfl, by decide +kernel, by decide +kernel⟩
def xsOf (H : Hp) (l : Addr) : List V := match H l with
  | some (.lst xs) => xs
  | _ => []
def nounsW (sf : Nat) : List Wd := (List.range 26).map fun k => [110, 97 + (sf + 7 * k) % 26]
theorem noun_leaf (c : Nat) (h : c < 26) : leafOk [110, 97 + c] := safe_leaf (by simp [safe]; omega) (by simp) (by simp)
theorem nouns_leaf {sf : Nat} {u : Wd} (h : u ∈ nounsW sf) : leafOk u := by
  obtain ⟨k, _, rfl⟩ := List.mem_map.mp h
  exact noun_leaf _ (Nat.mod_lt _ (by decide))
theorem nouns_len (sf : Nat) : (nounsW sf).length = 26 := by simp [nounsW]
def nounF (sf : Nat) : PyData → PyData
  | .int i => wD [110, 97 + (sf + 7 * i.toNat) % 26]
  | _ => .none
theorem nounF_all (sf : Nat) : ((intsD 26).filter (fun _ => true)).map (nounF sf) = wsD (nounsW sf) := by
  rw [all_filter, intsD, nounsW, wsD, List.map_map, List.map_map]
  rfl
theorem small_at {r : Nat} (h : r < 26) : atI wSmall (r : Int) = some (97 + r) := atI_nat (small_get r h)
theorem at_asgN {te : TE} {i : Nat} {D : L2.Ends} {σ : L2.St} {H : Hp} (h : te σ H fun x H1 => D.nx (σ.set i (some x)) H1) : tAsg te (gName i) D σ H := h
theorem pi_listK {X : Cx} {tg l : Expr} {tl : TE} (hl : PE X l tl) (hK : X.K = K := by rfl) : PI X tg l (iList K tl) := by
  subst hK
  exact pi_list hl
theorem at_il {te : TE} {σ : L2.St} {H : Hp} {R : It → Hp → Prop} (h : te σ H fun x H1 => ∃ a, x = .ref a ∧ (∃ xs, SqL K H1 a xs) ∧ R (Itl K a) H1) : iList K te σ H R := h
theorem at_sl {r : V → Option Int → Option Int → Hp → VK → Prop} {te : TE} {tl th : TO} {σ : L2.St} {H : Hp} {Q : VK} (h : te σ H fun x H1 => tl σ H1 fun l H2 => th σ H2 fun u H3 => r x l u H3 Q) : tSl r te tl th σ H Q := h
theorem at_nop {σ : L2.St} {H : Hp} {Q : Option Int → Hp → Prop} (h : Q none H) : tNoPart σ H Q := h
theorem at_part {t : TE} {σ : L2.St} {H : Hp} {Q : Option Int → Hp → Prop} (h : t σ H fun x H1 => ∃ i, x = .int i ∧ Q (some i) H1) : tPart t σ H Q := h
theorem at_exp {te : TE} {D : L2.Ends} {σ : L2.St} {H : Hp} (h : te σ H fun _ H1 => D.nx σ H1) : tDrop te D σ H := h
theorem fresh_of {H H' : Hp} {b p : Addr} (m : Mo b H H') (hp : H' p = none) (hpb : p ≠ b) : H p = none := by
  cases z : H p with
  | none => rfl
  | some o => rw [m p o hpb z] at hp; cases hp
theorem Fd.dt {H : Hp} {l : Addr} {rows : List (List Wd)} (h : Fd K H l rows) : Dt K H (.ref l) (.list (rwsD rows)) := let ⟨_, h1, h2, _⟩ := h; .lst h1 h2
theorem Fd.len {H : Hp} {l : Addr} {rows : List (List Wd)} (h : Fd K H l rows) : ∃ xs, H l = some (.lst xs) ∧ xs.length = rows.length := let ⟨xs, h1, h2, _⟩ := h; ⟨xs, h1, by rw [h2.len, rwsD, List.length_map]⟩
theorem Wr.app {r1 r2 : List (List Wd)} (h : Wr r1) (g : Wr r2) : Wr (r1 ++ r2) := fun r hr => (List.mem_append.mp hr).elim (h r) (g r)
theorem Wr.one {r : List Wd} (h : Wz 99 199 r) : Wr [r] := fun x hx => by rw [List.mem_singleton.mp hx]; exact h
/-- found + other -/
theorem Fd.cat {H : Hp} {l m : Addr} {r1 r2 : List (List Wd)} {Q : VK} (h : Fd K H l r1) (g : Fd K H m r2) (hl : r1.length + r2.length < 1000) (q : ∀ p, H p = none → Fd K (upd H p (.lst (xsOf H l ++ xsOf H m))) p (r1 ++ r2) → Q (.ref p) (upd H p (.lst (xsOf H l ++ xsOf H m)))) : rCat (.ref l) (.ref m) H Q := by
  obtain ⟨xs, h1, h2, h3⟩ := h
  obtain ⟨ys, g1, g2, g3⟩ := g
  have e1 : xsOf H l = xs := by unfold xsOf; rw [h1]
  have e2 : xsOf H m = ys := by unfold xsOf; rw [g1]
  refine ⟨l, m, xs, ys, rfl, rfl, h1, g1, ?_, fun p hp => ?_⟩
  · rw [h2.len, g2.len, rwsD, rwsD, List.length_map, List.length_map]
    exact len_small (by omega)
  · have := q p hp
    rw [e1, e2] at this
    refine this ⟨xs ++ ys, upd_same, ?_, fun r hr => (List.mem_append.mp hr).elim (h3 r) (g3 r)⟩
    rw [show rwsD (r1 ++ r2) = rwsD r1 ++ rwsD r2 from List.map_append]
    exact (h2.same (same_new hp _)).app (g2.same (same_new hp _))
theorem c_law_rows_words (T : Tx w K mg) : Cal P w K mg base 11 "_law_rows_words" (spRws K) [] := by
  obtain ⟨fd, F⟩ := T.d_law_rows_words
  have c_law_take := c_law_take (P := P) (base := base) T
  have c_law_leaf_word := c_law_leaf_word (P := P) (base := base) T
  have c_law_thing_words := c_law_thing_words (P := P) (base := base) T
  have c_tm3 := c_tm (P := P) (base := base) T (d := 3) (by decide)
  have c_tm2 := c_tm (P := P) (base := base) T (d := 2) (by decide)
  refine cal_of F (F.ok sc_law_rows_words (fun vs H Q E h => by obtain ⟨_, _, rfl, _⟩ := h; rfl) (fun cdv A outer s H vs Q E hr h => ⟨_, PSs.nox ((pss_cons (ps_set (i := 1) sc_law_rows_words.nd rfl (Or.inr rfl) pe_str)
    (pss_cons (ps_set (i := 2) sc_law_rows_words.nd rfl (Or.inl rfl) (pe_c c_law_take hr (by decide) rfl (pa_cons (pv 0) (pa_cons pe_int pa_nil))))
    (pss_cons (ps_set (i := 3) sc_law_rows_words.nd rfl (Or.inl rfl) (pe_c c_law_take hr (by decide) rfl (pa_cons (pv 0) (pa_cons pe_int pa_nil))))
    (pss_cons (ps_set (i := 4) sc_law_rows_words.nd rfl (Or.inr rfl) (pe_c c_law_take hr (by decide) rfl (pa_cons (pv 0) (pa_cons pe_int pa_nil))))
    (pss_cons (ps_setLc (i := 5) (own := [("k", 7)]) (g := (gName 7)) (tt := tYes) (by rfl) sc_law_rows_words.nd rfl rfl (sw_true rfl rfl rfl (by decide +kernel)) (pi_range1 (by rfl) T.n_range (pa_cons pe_int pa_nil)) (blkOk_by (N := N_law_rows_words) (sc := defScope s_law_rows_words) (by decide +kernel)) (fun _ _ _ _ _ => (pg_name (i := 7) sc_law_rows_words.nd rfl (Or.inl rfl))) (fun _ _ _ _ _ => pts_nil) (fun _ _ _ _ _ => (pe_op op_addS pe_str (pe_ix ix_str (pv 1) (pe_op op_mod (pe_op op_add (pv 4) (pe_op op_mul pe_int (pv 7))) pe_int) (fun _ _ => rfl)))))
    (pss_cons (ps_if (pt_cmpR op_eq (pv 2) pe_int (nomark _)) (pss_one (ps_ret (pe_lc (own := [("name", 8)]) (g := (gName 8)) (tt := tYes) (by rfl) sc_law_rows_words.nd (pi_listK (K := K) (pe_slice (sl_listK (K := K)) (pv 5) po_none (po_some (pe_op op_add pe_int (pe_c c_law_take hr (by decide) rfl (pa_cons (pv 0) (pa_cons pe_int pa_nil))))))) (blkOk_by (N := N_law_rows_words) (sc := defScope s_law_rows_words) (by decide +kernel)) (fun _ _ _ _ _ => (pg_name (i := 8) sc_law_rows_words.nd rfl (Or.inl rfl))) (fun _ _ _ _ _ => pts_nil) (fun _ _ _ _ _ => (pe_lst (pa_cons pe_str (pa_cons (pv 8) (pa_cons pe_str (pa_cons (pe_c c_law_leaf_word hr (by decide) rfl (pa_cons (pv 0) (pa_cons (pe_lst pa_nil) pa_nil))) pa_nil))))))))) pss_nil)
    (pss_cons (ps_set (i := 6) sc_law_rows_words.nd rfl (Or.inl rfl) (pe_lst pa_nil))
    (pss_cons (ps_for PassesOwn.never rfl (pi_range1 (by rfl) T.n_range (pa_cons (pe_c c_law_take hr (by decide) rfl (pa_cons (pv 0) (pa_cons pe_int pa_nil))) pa_nil)) (pg_name (i := 7) sc_law_rows_words.nd rfl (Or.inl rfl))
      (pss_cons (ps_set (i := 8) sc_law_rows_words.nd rfl (Or.inl rfl) (pe_ix (ix_listK (K := K)) (pv 5) (pe_op op_sub (pv 7) (pe_callTy call_int1 rfl T.n_int b_int (pa_cons (pe_and (pe_cmpR op_eq (pv 3) pe_int (nomark _)) (pe_one (pe_cmpR op_gt (pv 7) pe_int (nomark _)))) pa_nil))) (fun _ _ => rfl)))
    (pss_cons (ps_set (i := 9) sc_law_rows_words.nd rfl (Or.inl rfl) (pe_c c_law_take hr (by decide) rfl (pa_cons (pv 0) (pa_cons pe_int pa_nil))))
    (pss_one (ps_if (pt_cmpR op_eq (pv 9) pe_int (nomark _)) (pss_one (ps_set (i := 6) sc_law_rows_words.nd rfl (Or.inl rfl) (pe_op op_cat (pv 6) (pe_c c_law_thing_words hr (by decide) rfl (pa_cons (pv 0) (pa_cons (pv 8) pa_nil)))))) (pss_one (ps_if (pt_cmpR op_eq (pv 9) pe_int (nomark _)) (pss_one (ps_expr (pe_bm PySem.F.plainAttrs_list PySem.F.slot_list_append PySem.F.type_list_append mt_append (pv 6) (pa_cons (pe_op op_cat (pe_lst (pa_cons pe_str (pa_cons (pv 8) (pa_cons pe_str pa_nil)))) (pe_c c_tm3 hr (by decide) rfl (pa_cons (pv 0) (pa_cons pe_int (pa_cons (pe_lst pa_nil) pa_nil))))) pa_nil)))) (pss_one (ps_expr (pe_bm PySem.F.plainAttrs_list PySem.F.slot_list_append PySem.F.type_list_append mt_append (pv 6) (pa_cons (pe_op op_cat (pe_op op_cat (pe_op op_cat (pe_lst (pa_cons pe_str (pa_cons (pv 8) (pa_cons pe_str pa_nil)))) (pe_c c_tm2 hr (by decide) rfl (pa_cons (pv 0) (pa_cons pe_int (pa_cons (pe_lst pa_nil) pa_nil))))) (pe_lst (pa_cons pe_str pa_nil))) (pe_c c_tm2 hr (by decide) rfl (pa_cons (pv 0) (pa_cons pe_int (pa_cons (pe_lst pa_nil) pa_nil))))) pa_nil)))))))))))
    (pss_one (ps_ret (pe_slice (sl_listK (K := K)) (pv 6) po_none (po_some pe_int))))))))))))), ?_⟩)) T.g_law_rows_words
    fun _ _ _ _ _ _ us hl => match us, hl with | [_], _ => rfl
  obtain ⟨b, n, rfl, hB, hn, q⟩ := h
  refine rd_set (K := K) (es_w wSmall) fun v1 H1 e1 hv1 => ?_
  cases hv1
  dsimp only
  refine at_asgN (at_take (K := K) rfl (hB.same e1) (by omega) (by decide) (by decide) es_int fun lg H2 m2 B2 hlg => ?_)
  dsimp only
  refine at_asgN (at_take (K := K) rfl B2 (by omega) (by decide) (by decide) es_int fun tw H3 m3 B3 htw => ?_)
  dsimp only
  refine at_asgN (at_take (K := K) rfl B3 (by omega) (by decide) (by decide) es_int fun sf H4 m4 B4 hsf => ?_)
  dsimp only
  have m04 := (((Mo.of e1).trans m2).trans m3).trans m4
  refine rd_set (K := K) (d := .list (wsD (nounsW sf))) ((es_lc (p := fun _ => true) (f := nounF sf) (esi_range (n := 26) (esa_cons es_int esa_nil) (by decide)) (fun _ => rfl) (by simp [intsD]) (fun d hd _ => ?_) fun d hd v H5 e5 hv => ?_).eq (congrArg PyData.list (nounF_all sf))) fun v5 H5 e5 hv5 => ?_
  · cases d <;> rfl
  · obtain ⟨k, hk, rfl⟩ := List.mem_map.mp hd
    have hk26 := List.mem_range.mp hk
    refine ⟨est_yes, fun _ => ?_⟩
    have ht : ((sf : Int) + 7 * (k : Int)) % 26 = (((sf + 7 * k) % 26 : Nat) : Int) := by omega
    refine (es_op (od_addS (a := [110]) (b := [97 + (sf + 7 * k) % 26]) (by simp)) (es_w [110]) (es_op (od_ixS (w := wSmall) (i := ((sf : Int) + 7 * (k : Int)) % 26) (by decide) (by rw [ht]; exact small_at (Nat.mod_lt _ (by decide)))) (es_var (i := 1) rfl (dt_w wSmall)) (es_op (od_rI (by show (0 : Int) < 26; decide)) (es_op od_add (es_var (i := 4) rfl (.int _)) (es_op (od_rI (.inl ⟨by decide, by decide⟩)) es_int (es_var (i := 7) rfl hv))) es_int))).eq rfl
  dsimp only
  have m05 := m04.trans (Mo.of e5)
  have B5 := B4.same e5
  have hnl := nouns_len sf
  refine rd_if (b := decide ((lg : Int) = 5)) (est_op (es_op od_eqI (es_var (K := K) (i := 2) rfl (.int _)) es_int)) (fun H6 e6 hb => ?_) (fun H6 e6 hb => ?_)
  · have m06 := m05.trans (Mo.of e6)
    have B6 := B5.same e6
    have hv6 := hv5.same e6
    refine at_ret (at_lc (at_il (at_sl ⟨_, rfl, at_nop (at_part (at_op (at_c (at_take (K := K) rfl B6 (by omega) (by decide) (by decide) es_int fun r H7 m7 B7 hr => ⟨24, _, rfl, rfl, _, rfl, ?_⟩))))⟩)))
    have hv7 := ws_bx B6 m7 hv6
    have ht : (24 : Int) + (r : Int) = ((24 + r : Nat) : Int) := by omega
    rw [ht]
    refine sd_list H7 _ hv7 _ fun v8 H8 e8 hv8 => ?_
    rw [cut_to, show (wsD (nounsW sf)).take (24 + r) = wsD ((nounsW sf).take (24 + r)) by unfold wsD; rw [List.map_take]] at hv8
    have hN : ∀ u ∈ (nounsW sf).take (24 + r), leafOk u := fun u hu => nouns_leaf (List.mem_of_mem_take hu)
    have hNl : ((nounsW sf).take (24 + r)).length ≤ 26 := by rw [List.length_take]; omega
    generalize (nounsW sf).take (24 + r) = ns at hv8 hN hNl
    have m08 := (m06.trans m7).trans (Mo.of e8)
    have B8 := B7.same e8
    cases hv8 with
    | @lst a xs _ hl hx =>
    have hxs := Dt.ws_eq hx
    subst hxs
    refine ⟨a, rfl, ⟨_, SqL.of hl⟩, fun D hD => ?_⟩
    have hab : a ≠ b := fun z => by
      obtain ⟨x, y, w, hb, _⟩ := B8
      rw [z, hb] at hl
      cases ns <;> cases hl
    have hDa : a ≠ D := fun z => by rw [z, hD] at hl; cases hl
    have hDb : D ≠ b := B8.ne hD
    have hDH := fresh_of m08 hD hDb
    have wk : Walk (Itl K a) (ns.map wV).length (fun H => SqL K H a (ns.map wV)) (YAt (ns.map wV)) := walk_list
    refine lc_it wk (fun i H' => ∃ rows, H' a = some (.lst (ns.map wV)) ∧ Wr rows ∧ rows.length = i ∧ Fd K H' D rows ∧ Mo b H H' ∧ Bx H' b (n + 4 + i * 12)) ?_ (fun i H' _ g => SqL.of g.choose_spec.1) (fun i x H9 H10 hi g y => ?_) (fun H9 g => ?_)
    · exact ⟨[], same_new hD _ _ _ hl, fun r hr => (by cases hr), rfl, ⟨[], upd_same, .nil, fun r hr => (by cases hr)⟩, m08.trans (Mo.of (same_new hD _)), (B8.same (same_new hD _)).mono (by omega)⟩
    · obtain ⟨rows, g0, g1, g2, g3, g4, g5⟩ := g
      obtain ⟨rfl, y⟩ := y
      rw [List.getElem?_map] at y
      rw [List.length_map] at hi
      rw [List.getElem?_eq_getElem hi] at y
      have hu := hN _ (List.getElem_mem hi)
      generalize ns[i] = u at y hu
      cases y
      refine ⟨rfl, ?_⟩
      unfold tYes
      refine iteT ?_
      refine at_lst (at_cons (at_c (at_cons ⟨_, rfl, at_cons (at_c (at_cons (at_call (at_cons ⟨_, rfl, at_cons (at_lst ?_)⟩))))⟩)))
      refine ⟨by show 0 ≤ sizeLine; decide, fun p hp => ?_⟩
      have hpb := g5.ne hp
      refine ⟨b, p, _, [], rfl, g5.same (same_new hp _), by omega, hpb, upd_same, by simp, by simp, fun w2 HB hw2 mB BB => ⟨by show 4 ≤ sizeLine; decide, fun p2 hp2 => ?_⟩⟩
      have f0 := (g3.same (same_new hp _)).bx (g5.same (same_new hp _)) hDb mB
      have f1 := f0.same (same_new hp2 (.lst [.str "hold", wV u, .str ":", wV w2]))
      obtain ⟨ys, f2, f3, f4⟩ := f1.app (r := [[104, 111, 108, 100], u, [58], w2]) (.lst upd_same (dt_ws [[104, 111, 108, 100], u, [58], w2])) (by simp)
      refine ⟨ys, f2, len_lt (by omega), rows ++ [[[104, 111, 108, 100], u, [58], w2]], ?_, g1.app (Wr.one ?_), by simp [g2], f4, ?_, ?_⟩
      · rw [upd_ne hDa]
        exact same_new hp2 _ _ _ (mB a _ hab (same_new hp _ _ _ g0))
      · exact ((Wz.leaf (u := [104, 111, 108, 100]) ⟨rfl, by decide⟩).app ((Wz.leaf hu).app ((Wz.leaf (u := [58]) ⟨rfl, by decide⟩).app (Wz.leaf hw2)))).le (by decide) (by decide)
      · exact (((g4.trans (Mo.of (same_new hp _))).trans mB).trans (Mo.of (same_new hp2 _))).own hDH _
      · exact ((BB.same (same_new hp2 _)).mo hDb Mo.upd).mono (by omega)
    · obtain ⟨rows, g0, g1, g2, g3, g4, g5⟩ := g
      rw [List.length_map] at g2 g5
      exact q rows _ H9 g1 (by omega) g4 (g5.mono (by omega)) g3.dt
  · dsimp only [tNext]
    refine at_asgN (at_lst ⟨by show 0 ≤ sizeLine; decide, fun l0 hl0 => ?_⟩)
    dsimp only
    have eL := e6.trans (same_new hl0 (.lst []))
    have m06 := m05.trans (Mo.of eL)
    have B6 := B5.same eL
    have hlb0 := (B5.same e6).ne hl0
    have hlH0 := fresh_of (m05.trans (Mo.of e6)) hl0 hlb0
    have hv6 := hv5.same eL
    have f6 : Fd K (upd H6 l0 (.lst [])) l0 [] := ⟨[], upd_same, .nil, fun r hr => (by cases hr)⟩
    generalize upd H6 l0 (.lst []) = HL at *
    refine at_for (at_take (K := K) rfl B6 (by omega) (by decide) (by decide) es_int fun tn H7 m7 B7 htn => ?_)
    refine rd_forR (K := K) (n := tn) es_int (by omega) (fun i σ' H' => ∃ l z7 z8 z9 rows, σ' = [some (.ref b), some (wV wSmall), some (.int (lg : Nat)), some (.int (tw : Nat)), some (.int (sf : Nat)), some v5, some (.ref l), z7, z8, z9] ∧ l ≠ b ∧ H l = none ∧ Wr rows ∧ rows.length ≤ i * 41 ∧ Fd K H' l rows ∧ Mo b H H' ∧ Bx H' b (n + 5 + i * 10001) ∧ Dt K H' v5 (.list (wsD (nounsW sf)))) ?_ ?_ ?_
    · exact fun H8 e8 => ⟨l0, _, _, _, [], rfl, hlb0, hlH0, fun r hr => (by cases hr), by show 0 ≤ _; omega, (f6.bx B6 hlb0 m7).same e8, (m06.trans m7).trans (Mo.of e8), (B7.same e8).mono (by omega), (ws_bx B6 m7 hv6).same e8⟩
    · rintro i σ' H8 hi ⟨l, z7, z8, z9, rows, rfl, hlb, hlH, hW, hln, hf, m8, B8, hn8⟩
      have hj : ∃ j : Nat, j < 26 ∧ (i : Int) - (if (decide ((tw : Int) = 0) && decide ((i : Int) > 1)) = true then 1 else 0) = (j : Int) := by
        by_cases hc : (decide ((tw : Int) = 0) && decide ((i : Int) > 1)) = true
        · rw [if_pos hc]
          simp at hc
          exact ⟨i - 1, by omega, by omega⟩
        · rw [if_neg hc]
          exact ⟨i, by omega, by omega⟩
      obtain ⟨j, hj26, hj⟩ := hj
      have hjl : j < (nounsW sf).length := by omega
      have hju := List.getElem?_eq_getElem hjl
      have hu := nouns_leaf (List.getElem_mem hjl)
      generalize (nounsW sf)[j] = u at hju hu
      refine rd_set (K := K) (d := wD u) (es_op (od_ixL (i := (i : Int) - (if (decide ((tw : Int) = 0) && decide ((i : Int) > 1)) = true then 1 else 0)) (by rw [hj]; exact atI_nat (wsD_get hju))) (es_var (i := 5) rfl hn8)
        (es_op od_sub (es_var (i := 7) rfl (.int _)) (es_b cb_intB (esa_cons (es_and (es_op od_eqI (es_var (i := 3) rfl (.int _)) es_int) fun _ => es_op od_cmp (es_var (i := 7) rfl (.int _)) es_int) esa_nil)))) fun vu H9 e9 hvu => ?_
      cases hvu
      dsimp only
      refine at_asgN (at_take (K := K) rfl (B8.same e9) (by omega) (by decide) (by decide) es_int fun way H10 m10 B10 hway => ?_)
      dsimp only
      have f10 := (hf.same e9).bx (B8.same e9) hlb m10
      have n10 := ws_bx (B8.same e9) m10 (hn8.same e9)
      have m010 := (m8.trans (Mo.of e9)).trans m10
      refine rd_if (b := decide ((way : Int) = 0)) (est_op (es_op od_eqI (es_var (K := K) (i := 9) rfl (.int _)) es_int)) (fun H11 e11 hb => ?_) (fun H11 e11 hb => ?_)
      · refine at_asgN (at_op ⟨_, rfl, at_call ⟨_, rfl, _, rfl, b, _, u, rfl, B10.same e11, by omega, hu, fun mm rows2 H12 hW2 hl2 hmb hmN m12 B12 f12 => ?_⟩⟩)
        refine ((f10.same e11).bx (B10.same e11) hlb m12).cat f12 (by omega) fun p hp fp => ?_
        have ep := same_new hp (.lst (xsOf H12 l ++ xsOf H12 mm))
        have m012 := (m010.trans (Mo.of e11)).trans m12
        exact ⟨p, _, _, _, rows ++ rows2, rfl, B12.ne hp, fresh_of m012 hp (B12.ne hp), hW.app hW2, by rw [List.length_append]; omega, fp, m012.trans (Mo.of ep), (B12.same ep).mono (by omega), (ws_bx (B10.same e11) m12 (n10.same e11)).same ep⟩
      refine rd_if (b := decide ((way : Int) = 1)) (est_op (es_op od_eqI (es_var (K := K) (i := 9) rfl (.int _)) es_int)) (fun H12 e12 hb => ?_) (fun H12 e12 hb => ?_)
      · have e112 := e11.trans e12
        refine at_appR rfl (f10.same e112) (at_op ((es_lst (K := K) (ds := wsD [[104, 111, 108, 100], u, [58]]) (esa_cons (es_w [104, 111, 108, 100]) (esa_cons (es_var (i := 8) rfl (dt_w u)) (esa_cons (es_w [58]) esa_nil))) (by show 3 ≤ 100000; decide)).at fun v13 H13 e13 hv13 => ?_))
        have e113 := e112.trans e13
        refine at_tm0 (K := K) (d := 3) rfl (B10.same e113) (by have := bT_le 3 (by decide); omega) (by decide) fun us v14 H14 hz m14 B14 hv14 => ?_
        have hus := hz.len
        have := kT_le 3 (by decide)
        refine at_cat (K := K) (ws_bx (B10.same e113) m14 hv13) hv14 (by simp; omega) fun v15 H15 e15 hv15 => ?_
        have f15 := ((f10.same e113).bx (B10.same e113) hlb m14).same e15
        refine app_row f15 (by omega) hv15 (by simp) fun H16 m16 f16 => ?_
        have m015 := ((m010.trans (Mo.of e113)).trans m14).trans (Mo.of e15)
        obtain ⟨xs, fx1, fx2, _⟩ := f15
        refine ⟨l, _, _, _, rows ++ [[[104, 111, 108, 100], u, [58]] ++ us], rfl, hlb, hlH, hW.app (Wr.one ?_), by rw [List.length_append]; show rows.length + 1 ≤ _; omega, f16, m015.skip m16 hlH, ((B14.same e15).mo hlb m16).mono (by have := bT_le 3 (by decide); omega), ?_⟩
        · exact (((Wz.leaf (u := [104, 111, 108, 100]) ⟨rfl, by decide⟩).app ((Wz.leaf hu).app (Wz.leaf (u := [58]) ⟨rfl, by decide⟩))).app hz).le (by decide) (by decide)
        · exact ws_keep fx1 (rows_refs fx2) (List.ne_nil_of_length_pos (by omega)) m16 ((ws_bx (B10.same e113) m14 (n10.same e113)).same e15)
      · have e112 := e11.trans e12
        refine at_appR rfl (f10.same e112) (at_op (at_op (at_op ((es_lst (K := K) (ds := wsD [[109, 101, 97, 110], u, [58]]) (esa_cons (es_w [109, 101, 97, 110]) (esa_cons (es_var (i := 8) rfl (dt_w u)) (esa_cons (es_w [58]) esa_nil))) (by show 3 ≤ 100000; decide)).at fun v13 H13 e13 hv13 => ?_))))
        have e113 := e112.trans e13
        refine at_tm0 (K := K) (d := 2) rfl (B10.same e113) (by have := bT_le 2 (by decide); omega) (by decide) fun us v14 H14 hz m14 B14 hv14 => ?_
        have hus := hz.len
        have hnT := kT_le 2 (by decide)
        refine at_cat (K := K) (ws_bx (B10.same e113) m14 hv13) hv14 (by simp; omega) fun v15 H15 e15 hv15 => ?_
        refine (es_lst (K := K) (ds := wsD [[61]]) (esa_cons (es_w [61]) esa_nil)).at fun v16 H16 e16 hv16 => ?_
        refine at_cat (K := K) (hv15.same e16) hv16 (by simp; omega) fun v17 H17 e17 hv17 => ?_
        have e147 := (e15.trans e16).trans e17
        refine at_tm0 (K := K) (d := 2) rfl (B14.same e147) (by have := bT_le 2 (by decide); omega) (by decide) fun us2 v18 H18 hz2 m18 B18 hv18 => ?_
        have hus2 := hz2.len
        refine at_cat (K := K) (ws_bx (B14.same e147) m18 hv17) hv18 (by simp; omega) fun v19 H19 e19 hv19 => ?_
        have f19 := ((((f10.same e113).bx (B10.same e113) hlb m14).same e147).bx (B14.same e147) hlb m18).same e19
        refine app_row f19 (by omega) hv19 (by simp) fun H20 m20 f20 => ?_
        have m019 := ((((m010.trans (Mo.of e113)).trans m14).trans (Mo.of e147)).trans m18).trans (Mo.of e19)
        obtain ⟨xs, fx1, fx2, _⟩ := f19
        refine ⟨l, _, _, _, _, rfl, hlb, hlH, hW.app (Wr.one ?_), by rw [List.length_append]; show rows.length + 1 ≤ _; omega, f20, m019.skip m20 hlH, ((B18.same e19).mo hlb m20).mono (by have : bT 2 = 832 := rfl; omega), ?_⟩
        · exact (((((Wz.leaf (u := [109, 101, 97, 110]) ⟨rfl, by decide⟩).app ((Wz.leaf hu).app (Wz.leaf (u := [58]) ⟨rfl, by decide⟩))).app hz).app (Wz.leaf (u := [61]) ⟨rfl, by decide⟩)).app hz2).le (by decide) (by decide)
        · exact ws_keep fx1 (rows_refs fx2) (List.ne_nil_of_length_pos (by omega)) m20 ((ws_bx (B14.same e147) m18 ((ws_bx (B10.same e113) m14 (n10.same e113)).same e147)).same e19)
    · rintro σ' H8 ⟨l, z7, z8, z9, rows, rfl, hlb, hlH, hW, hln, hf, m8, B8, hn8⟩
      refine rd_ret (es_toR (k := 60) (es_var (i := 6) rfl hf.dt) es_int) fun v H9 e9 hv => ?_
      exact q _ v H9 (fun r hr => hW r (List.mem_of_mem_take hr)) (by rw [List.length_take]; omega) (m8.trans (Mo.of e9)) ((B8.same e9).mono (by omega)) hv
end
end K83
namespace K83
open PySem PySem.Spec PyProof.Rows L2
/-- ' ' * n -/
def rMulS : R2 := fun x y H Q => ∃ n : Nat, x = .str (S [32]) ∧ y = .int (n : Nat) ∧ n ≤ 6 ∧ Q (.str (S (sp n))) H
theorem op_mulS {X : Cx} : OpR X (binaryOp .Mult) rMulS := by
  intro pins s σ H x y v u Q I rx ry h
  obtain ⟨n, rfl, rfl, hn, q⟩ := h
  obtain ⟨t, rfl⟩ := rx
  obtain ⟨t', rfl⟩ := ry
  have l1 : (S [32]).length = 1 := rfl
  refine PySem.P.mul_str (by rw [decide_eq_false (by omega), decide_eq_false (by omega)]; rfl) (fun h1 _ => ?_) (fun h1 _ => ?_) ?_
  · rcases (by omega : n = 1 ∨ n = 2 ∨ n = 3 ∨ n = 4 ∨ n = 5 ∨ n = 6) with h | h | h | h | h | h <;> subst h <;> decide
  · rcases (by omega : n = 1 ∨ n = 2 ∨ n = 3 ∨ n = 4 ∨ n = 5 ∨ n = 6) with h | h | h | h | h | h <;> subst h <;> decide
  · rcases (by omega : n = 0 ∨ n = 1 ∨ n = 2 ∨ n = 3 ∨ n = 4 ∨ n = 5 ∨ n = 6) with h | h | h | h | h | h | h <;> subst h
    · exact ⟨by decide, .str (S (sp 0)), H, I.tok _, ⟨_, rfl⟩, q⟩
    · exact ⟨.str (S (sp 1)), H, I, ⟨_, rfl⟩, q⟩
    · exact ⟨by decide, .str (S (sp 2)), H, I.tok _, ⟨_, rfl⟩, q⟩
    · exact ⟨by decide, .str (S (sp 3)), H, I.tok _, ⟨_, rfl⟩, q⟩
    · exact ⟨by decide, .str (S (sp 4)), H, I.tok _, ⟨_, rfl⟩, q⟩
    · exact ⟨by decide, .str (S (sp 5)), H, I.tok _, ⟨_, rfl⟩, q⟩
    · exact ⟨by decide, .str (S (sp 6)), H, I.tok _, ⟨_, rfl⟩, q⟩
end K83
namespace K83
open PySem PySem.Spec PyProof.Rows L2
open C8 (Cal pe_c CalAt)
section
variable {P : Program} {w : World} {K : PySem.W.Frag} {mg : Str → Option Value} {base : Heap}
/-! ### text -/
def spTxt (K : PySem.W.Frag) : Sp := fun vs H Q _ => ∃ (b : Addr) (v0 : V) (n : Nat) (rows : List (List Wd)), vs = [.ref b, v0] ∧ Bx H b n ∧ n + 3000 ≤ 1000000 ∧ Dt K H v0 (.list (rwsD rows)) ∧ WrC 205 rows ∧ rows.length ≤ 100 ∧
  ∀ (ls : List Wd) H2, (∀ l ∈ ls, IsLn l) → ls.length = rows.length → Mo b H H2 → Bx H2 b (n + 3000) → Q (wV (TL.joinL [10] ls)) H2
/-- ' ' * [1, 1, 1, 1, 2, 3, 6][_law_take(box, 7)] -/
theorem at_blank {σ : L2.St} {H : Hp} {b : Addr} {n : Nat} {E : XK} {Q : VK} (hs : σ[0]? = some (some (.ref b))) (hB : Bx H b n) (hn : n ≤ 1000000) (q : ∀ (k : Nat) H2, 1 ≤ k → k ≤ 6 → Mo b H H2 → Bx H2 b (n + 1) → Q (wV (sp k)) H2) :
    tOp rMulS (tC (.str (S [32]))) (tOp (rIxL K) (tLst (tCons (tC (.int 1)) (tCons (tC (.int 1)) (tCons (tC (.int 1)) (tCons (tC (.int 1)) (tCons (tC (.int 2)) (tCons (tC (.int 3)) (tCons (tC (.int 6)) tNil))))))))
      (tCall (spTake K) [] E (tCons (tVar 0) (tCons (tC (.int 7)) tNil)))) σ H Q := by
  refine at_op (at_c (at_op (at_lst (at_cons (at_c (at_cons (at_c (at_cons (at_c (at_cons (at_c (at_cons (at_c (at_cons (at_c (at_cons (at_c ⟨by show 7 ≤ sizeLine; decide, fun p hp => ?_⟩)))))))))))))))))
  have hpb := hB.ne hp
  refine at_take (K := K) hs (hB.same (same_new hp _)) hn (by decide) (by decide) es_int fun r H2 m2 B2 hr => ?_
  obtain ⟨k, h1, h6, hg⟩ : ∃ k : Nat, 1 ≤ k ∧ k ≤ 6 ∧ ([V.int 1, V.int 1, V.int 1, V.int 1, V.int 2, V.int 3, V.int 6] : List V)[r]? = some (V.int (k : Nat)) := by
    rcases (by omega : r = 0 ∨ r = 1 ∨ r = 2 ∨ r = 3 ∨ r = 4 ∨ r = 5 ∨ r = 6) with h | h | h | h | h | h | h <;> subst h
    · exact ⟨1, by decide, by decide, rfl⟩
    · exact ⟨1, by decide, by decide, rfl⟩
    · exact ⟨1, by decide, by decide, rfl⟩
    · exact ⟨1, by decide, by decide, rfl⟩
    · exact ⟨2, by decide, by decide, rfl⟩
    · exact ⟨3, by decide, by decide, rfl⟩
    · exact ⟨6, by decide, by decide, rfl⟩
  exact ⟨p, _, _, _, rfl, rfl, SqL.of (m2 _ _ hpb upd_same), atI_nat hg, k, rfl, rfl, h6, q k H2 h1 h6 ((Mo.of (same_new hp _)).trans m2) B2⟩
/-- ' ' * [0, 0, 0, 1, 4][_law_take(box, 5)] -/
theorem at_end {σ : L2.St} {H : Hp} {b : Addr} {n : Nat} {E : XK} {Q : VK} (hs : σ[0]? = some (some (.ref b))) (hB : Bx H b n) (hn : n ≤ 1000000) (q : ∀ (k : Nat) H2, k ≤ 4 → Mo b H H2 → Bx H2 b (n + 1) → Q (wV (sp k)) H2) :
    tOp rMulS (tC (.str (S [32]))) (tOp (rIxL K) (tLst (tCons (tC (.int 0)) (tCons (tC (.int 0)) (tCons (tC (.int 0)) (tCons (tC (.int 1)) (tCons (tC (.int 4)) tNil))))))
      (tCall (spTake K) [] E (tCons (tVar 0) (tCons (tC (.int 5)) tNil)))) σ H Q := by
  refine at_op (at_c (at_op (at_lst (at_cons (at_c (at_cons (at_c (at_cons (at_c (at_cons (at_c (at_cons (at_c ⟨by show 5 ≤ sizeLine; decide, fun p hp => ?_⟩)))))))))))))
  have hpb := hB.ne hp
  refine at_take (K := K) hs (hB.same (same_new hp _)) hn (by decide) (by decide) es_int fun r H2 m2 B2 hr => ?_
  obtain ⟨k, h4, hg⟩ : ∃ k : Nat, k ≤ 4 ∧ ([V.int 0, V.int 0, V.int 0, V.int 1, V.int 4] : List V)[r]? = some (V.int (k : Nat)) := by
    rcases (by omega : r = 0 ∨ r = 1 ∨ r = 2 ∨ r = 3 ∨ r = 4) with h | h | h | h | h <;> subst h
    · exact ⟨0, by decide, rfl⟩
    · exact ⟨0, by decide, rfl⟩
    · exact ⟨0, by decide, rfl⟩
    · exact ⟨1, by decide, rfl⟩
    · exact ⟨4, by decide, rfl⟩
  exact ⟨p, _, _, _, rfl, rfl, SqL.of (m2 _ _ hpb upd_same), atI_nat hg, k, rfl, rfl, by omega, q k H2 h4 ((Mo.of (same_new hp _)).trans m2) B2⟩
theorem sum_len {M : Nat} : ∀ {ls : List Wd}, (∀ x ∈ ls, x.length ≤ M) → ((ls.map S).map (·.length)).sum ≤ ls.length * M
  | [], _ => by simp
  | x :: ls, h => by
    have ih := sum_len (ls := ls) fun y hy => h y (List.mem_cons_of_mem _ hy)
    have hx := h x List.mem_cons_self
    rw [List.map_cons, List.map_cons, List.sum_cons, S_length, List.length_cons, Nat.succ_mul]
    omega
theorem md_join {w : Wd} {ws : List Wd} {M : Nat} (h : ∀ x ∈ ws, x.length ≤ M) (hb : ws.length * M + ws.length * w.length ≤ 16777216) : MtD K (rJoinK K) (wD w) [.list (wsD ws)] (wD (TL.joinL w ws)) := fun H x vs hx hvs Q q => by
  obtain ⟨v, rfl, hv⟩ := hvs.one_inv
  cases hx
  cases hv with
  | @lst p xs _ hp hr =>
    have e := Dt.ws_eq hr
    subst e
    refine ⟨S w, p, ws.map S, rfl, rfl, .inl (SqL.of (by rw [wV_map]; exact hp)), ?_, ?_⟩
    · have := sum_len h
      rw [List.length_map, S_length]
      omega
    · rw [SX.join_S]
      exact q _ _ (Same.refl H) (.str _)
theorem at_asgN2 {te : TE} {i : Nat} {D : L2.Ends} {σ : L2.St} {H : Hp} (h : te σ H fun x H1 => D.nx (σ.set i (some x)) H1) : tAsg te (gName i) D σ H := h
theorem fresh_of2 {H H' : Hp} {b p : Addr} (m : Mo b H H') (hp : H' p = none) (hpb : p ≠ b) : H p = none := by
  cases z : H p with
  | none => rfl
  | some o => rw [m p o hpb z] at hp; cases hp
theorem skip2 {b : Addr} {l : Addr} {H H3 H4 : Hp} (e : Mo b H H3) (f : Mo l H3 H4) (hl : H l = none) : Mo b H H4 := fun a o hab q => f a o (by rintro rfl; rw [hl] at q; cases q) (e a o hab q)
abbrev N_law_text : List Str := ["box", "rows", "found", "words", "blank", "around", "end"]
abbrev P_law_text : List Str := ["box", "rows"]
theorem sc_law_text : FnScope N_law_text P_law_text (defScope s_law_text) := ⟨rfl, rfl, rfl, by decide +kernel, rfl, by decide +kernel, by decide +kernel⟩
theorem c_law_text (T : Tx w K mg) : Cal P w K mg base 2 "_law_text" (spTxt K) [] := by
  obtain ⟨fd, F⟩ := T.d_law_text
  have c_law_take := c_law_take (P := P) (base := base) T
  refine cal_of F (F.ok sc_law_text (fun vs H Q E h => by obtain ⟨_, _, _, _, rfl, _⟩ := h; rfl) (fun cdv A outer s H vs Q E hr h => ⟨_, PSs.nox ((pss_cons (ps_set (i := 2) sc_law_text.nd rfl (Or.inl rfl) (pe_lst pa_nil))
    (pss_cons (ps_for PassesOwn.never rfl (pi_list (pv 1)) (pg_name (i := 3) sc_law_text.nd rfl (Or.inl rfl))
      (pss_cons (ps_set (i := 4) sc_law_text.nd rfl (Or.inl rfl) (pe_op op_mulS pe_str (pe_ix (ix_listK (K := K)) (pe_lst (pa_cons pe_int (pa_cons pe_int (pa_cons pe_int (pa_cons pe_int (pa_cons pe_int (pa_cons pe_int (pa_cons pe_int pa_nil)))))))) (pe_c c_law_take hr (by decide) rfl (pa_cons (pv 0) (pa_cons pe_int pa_nil))) (fun _ _ => rfl))))
    (pss_cons (ps_setLc (i := 5) (own := [("end", 6)]) (g := (gName 6)) (tt := tYes) (by rfl) sc_law_text.nd rfl rfl (sw_true rfl rfl rfl (by decide +kernel)) (pi_range1 (by rfl) T.n_range (pa_cons pe_int pa_nil)) (blkOk_by (N := N_law_text) (sc := defScope s_law_text) (by decide +kernel)) (fun _ _ _ _ _ => (pg_name (i := 6) sc_law_text.nd rfl (Or.inl rfl))) (fun _ _ _ _ _ => pts_nil) (fun _ _ _ _ _ => (pe_op op_mulS pe_str (pe_ix (ix_listK (K := K)) (pe_lst (pa_cons pe_int (pa_cons pe_int (pa_cons pe_int (pa_cons pe_int (pa_cons pe_int pa_nil)))))) (pe_c c_law_take hr (by decide) rfl (pa_cons (pv 0) (pa_cons pe_int pa_nil))) (fun _ _ => rfl)))))
    (pss_one (ps_expr (pe_bm PySem.F.plainAttrs_list PySem.F.slot_list_append PySem.F.type_list_append mt_append (pv 2) (pa_cons (pe_op op_addS (pe_op op_addS (pe_ix (ix_listK (K := K)) (pv 5) pe_int (fun _ _ => rfl)) (pe_m1 PySem.F.slot_str_join PySem.F.type_str_join (mt_joinK (K := K)) (pv 4) (pv 3))) (pe_ix (ix_listK (K := K)) (pv 5) pe_int (fun _ _ => rfl))) pa_nil)))))))
    (pss_one (ps_ret (pe_m1 PySem.F.slot_str_join PySem.F.type_str_join (mt_joinK (K := K)) pe_str (pv 2))))))), ?_⟩)) T.g_law_text
    fun _ _ _ _ _ _ us hl => match us, hl with | [_, _], _ => rfl
  obtain ⟨b, v0, n, rows, rfl, hB, hn, hv0, hW, hlr, q⟩ := h
  refine at_asgN2 (at_lst ⟨by show 0 ≤ sizeLine; decide, fun l hl => ?_⟩)
  dsimp only
  have el := same_new hl (.lst [])
  have hlb := hB.ne hl
  cases hv0 with
  | @lst r0 xs _ hr0 hrx =>
  have hv0 : Dt K H (.ref r0) (.list (rwsD rows)) := .lst hr0 hrx
  have hxl : xs.length = rows.length := by rw [hrx.len, rwsD, List.length_map]
  have hr0b : r0 ≠ b := fun z => by
    obtain ⟨x, y, w, hb, _⟩ := hB
    rw [z, hb] at hr0
    cases hr0
    cases rows with
    | nil => cases hrx
    | cons r rs => cases hrx with | cons h1 _ => cases h1
  refine rd_forL (a := r0) (xs := xs) rfl (same_new hl _ _ _ hr0) (fun j σ' H' => ∃ (z3 z4 z5 z6 : Option V) (ls : List Wd), σ' = [some (.ref b), some (.ref r0), some (.ref l), z3, z4, z5, z6] ∧ H' l = some (.lst (ls.map wV)) ∧ (∀ x ∈ ls, IsLn x) ∧ ls.length = j ∧ Mo b H H' ∧ Bx H' b (n + j * 3)) ?_ ?_ ?_ ?_
  · exact ⟨_, _, _, _, [], rfl, upd_same, fun x hx => (by cases hx), rfl, Mo.of el, (hB.same el).mono (by omega)⟩
  · rintro j σ' H' _ ⟨z3, z4, z5, z6, ls, rfl, h1, h2, h3, m, B⟩
    exact m _ _ hr0b hr0
  · rintro j x σ' H1 hx ⟨z3, z4, z5, z6, ls, rfl, h1, h2, h3, m1, B1⟩
    have hj : j < rows.length := by
      have := (List.getElem?_eq_some_iff.mp hx).1
      omega
    obtain ⟨d, hd1, hd2⟩ := hrx.get hx
    have hge : (rwsD rows)[j]? = some (.list (wsD rows[j])) := by unfold rwsD; rw [List.getElem?_map, List.getElem?_eq_getElem hj]; rfl
    rw [hge] at hd1
    cases hd1
    have hz := hW _ (List.getElem_mem hj)
    generalize rows[j] = ws at hz hd2
    refine at_asgN2 (at_blank (K := K) rfl B1 (by omega) fun k H2 hk1 hk6 m2 B2 => ?_)
    dsimp only
    refine at_asgN2 (at_lc (at_rng (at_c ⟨2, rfl, by decide, by decide, fun D hD => ?_⟩)))
    have hDb := B2.ne hD
    have hDH : H D = none := fresh_of2 (m1.trans m2) hD hDb
    have hDl : D ≠ l := fun z => by
      have := m2 _ _ hlb h1
      rw [← z, hD] at this
      cases this
    refine lc_it (walk_range (lo := 0) (n := (2 : Int).toNat)) (fun i H' => ∃ ks : List Nat, ks.length = i ∧ (∀ k ∈ ks, k ≤ 4) ∧ H' D = some (.lst (ks.map fun k => wV (sp k))) ∧ H' l = some (.lst (ls.map wV)) ∧ Mo b H H' ∧ Bx H' b (n + j * 3 + 1 + i)) ?_ (fun _ _ _ _ => trivial) (fun i x H3 H4 hi g y => ?_) (fun H3 g => ?_)
    · exact ⟨[], rfl, by simp, upd_same, same_new hD _ _ _ (m2 _ _ hlb h1), (m1.trans m2).trans (Mo.of (same_new hD _)), B2.same (same_new hD _)⟩
    · obtain ⟨ks, g1, g2, g3, g4, g5, g6⟩ := g
      obtain ⟨rfl, rfl⟩ := y
      have hi2 : i < 2 := hi
      refine ⟨rfl, ?_⟩
      unfold tYes
      refine iteT ?_
      refine at_end (K := K) rfl g6 (by omega) fun k5 H5 hk5 m5 B5 => ?_
      refine ⟨ks.map fun k => wV (sp k), m5 _ _ hDb g3, by rw [List.length_map]; exact len_lt (by omega), ks ++ [k5], by simp [g1], fun k hk => ?_, by rw [List.map_append]; exact upd_same, ?_, skip2 (g5.trans m5) Mo.upd hDH, B5.mo hDb Mo.upd⟩
      · rcases List.mem_append.mp hk with h | h
        · exact g2 k h
        · rw [List.mem_singleton.mp h]; exact hk5
      · rw [upd_ne hDl.symm]
        exact m5 _ _ hlb g4
    · obtain ⟨ks, g1, g2, g3, g4, g5, g6⟩ := g
      have g1 : ks.length = 2 := g1
      match ks, g1 with
      | [a1, a2], _ =>
        have ha1 := g2 a1 (by simp)
        have ha2 := g2 a2 (by simp)
        dsimp only
        have hD3 : Dt K H3 (.ref D) (.list (wsD [sp a1, sp a2])) := .lst g3 (dt_ws [sp a1, sp a2])
        have hx3 := ws_bx hB g5 hd2
        have hwl := hz.len
        have hw6 : ∀ w ∈ ws, w.length ≤ 6 := fun w hw => (okWd_inv (hz.ok w hw)).2
        have hkl : (sp k).length = k := List.length_replicate
        have hb1 : ws.length * 6 ≤ 205 * 6 := Nat.mul_le_mul_right _ hwl
        have hb2 : ws.length * k ≤ 205 * 6 := Nat.mul_le_mul hwl hk6
        have s1 : (sp a1).length = a1 := List.length_replicate
        have s2 : (sp a2).length = a2 := List.length_replicate
        have hjl : (TL.joinL (sp k) ws).length ≤ ws.length * (k + 6) := join_len hz.ok
        rw [Nat.mul_add] at hjl
        refine ⟨_, rfl, .inl ⟨rfl, _, SqL.of g4⟩, ?_⟩
        refine at_cons ((es_op (K := K) (od_addS (a := sp a1 ++ TL.joinL (sp k) ws) (b := sp a2) (by simp only [List.length_append]; omega)) (es_op (od_addS (a := sp a1) (b := TL.joinL (sp k) ws) (by omega)) (es_op (od_ixL (i := 0) atI_0) (es_var (i := 5) rfl hD3) es_int) (es_m1 (md_join (M := 6) hw6 (by rw [hkl]; omega)) (es_var (i := 4) rfl (dt_w (sp k))) (es_var (i := 3) rfl hx3))) (es_op (od_ixL (i := 1) (atI_nat (j := 1) rfl)) (es_var (i := 5) rfl hD3) es_int)).at fun v H4 e4 hv => ?_)
        cases hv
        refine ⟨l, _, _, rfl, rfl, e4 _ _ g4, by rw [List.length_map]; exact len_lt (by omega), ?_⟩
        have hlH : H l = none := hl
        refine ⟨_, _, _, _, ls ++ [sp a1 ++ TL.joinL (sp k) ws ++ sp a2], rfl, by rw [List.map_append]; exact upd_same, fun x hx => ?_, by simp [h3], skip2 (g5.trans (Mo.of e4)) Mo.upd hlH, ((g6.same e4).mo hlb Mo.upd).mono (by have h9 : (2 : Int).toNat = 2 := rfl; omega)⟩
        rcases List.mem_append.mp hx with h | h
        · exact h2 x h
        · rw [List.mem_singleton.mp h]
          exact ⟨a1, k, a2, ws, ⟨hz.ok, hz.zer, hz.low⟩, hk1, hk6, ha1, ha2, by unfold lineT; rw [List.append_assoc]⟩
  · rintro σ' H' ⟨z3, z4, z5, z6, ls, rfl, h1, h2, h3, m, B⟩
    have hls : ls.length = rows.length := by omega
    dsimp only
    refine at_ret ?_
    refine ⟨⟨_, rfl⟩, ⟨_, rfl, ?_⟩⟩
    refine ⟨S [10], l, ls.map S, rfl, rfl, .inl (SqL.of (by rw [wV_map]; exact h1)), ?_, ?_⟩
    · have := sum_len (M := 2468) fun x hx => (h2 x hx).len
      have h9 : ls.length * 2468 ≤ 100 * 2468 := Nat.mul_le_mul_right _ (by omega)
      rw [List.length_map, S_length]
      simp only [List.length_cons, List.length_nil]
      omega
    · rw [SX.join_S]
      exact q ls H' h2 hls m (B.mono (by omega))
end
end K83
namespace K83
open PySem PySem.Spec PyProof.Rows L2
/-! ### what is shown of terms and rows is short -/
structure Sh (d : PyData) (D U : Nat) : Prop where
  s : d.showable = true
  n : d.hasDict = false
  u : d.shown.length ≤ U
  d : d.depth ≤ D
structure ShA (ds : List PyData) (D U : Nat) : Prop where
  s : PyData.showableAll ds = true
  n : PyData.hasDictAll ds = false
  u : ((PyData.shownAll ds).map (·.length)).sum + 2 * ds.length ≤ U
  d : PyData.depthAll ds ≤ D
theorem Sh.le {d : PyData} {D U D' U' : Nat} (h : Sh d D U) (h1 : D ≤ D') (h2 : U ≤ U') : Sh d D' U' := ⟨h.s, h.n, Nat.le_trans h.u h2, Nat.le_trans h.d h1⟩
theorem ShA.le {d : List PyData} {D U D' U' : Nat} (h : ShA d D U) (h1 : D ≤ D') (h2 : U ≤ U') : ShA d D' U' := ⟨h.s, h.n, Nat.le_trans h.u h2, Nat.le_trans h.d h1⟩
theorem ShA.nil {D : Nat} : ShA [] D 0 := ⟨by simp only [PyData.showableAll], by simp only [PyData.hasDictAll], by simp only [PyData.shownAll]; decide, by simp only [PyData.depthAll]; omega⟩
theorem ShA.cons {d : PyData} {ds : List PyData} {D U V : Nat} (h : Sh d D U) (g : ShA ds D V) : ShA (d :: ds) D (U + 2 + V) := by
  refine ⟨by simp only [PyData.showableAll, h.s, g.s, Bool.and_self], by simp only [PyData.hasDictAll, h.n, g.n, Bool.or_self], ?_, ?_⟩
  · have h1 := h.u
    have h2 := g.u
    simp only [PyData.shownAll, List.map_cons, List.sum_cons, List.length_cons]
    omega
  · simp only [PyData.depthAll]
    exact Nat.max_le.mpr ⟨h.d, g.d⟩
theorem ShA.tup {ds : List PyData} {D U : Nat} (h : ShA ds D U) : Sh (.tuple ds) (D + 1) (U + 3) := by
  refine ⟨by simpa [PyData.showable] using h.s, by simpa [PyData.hasDict] using h.n, ?_, by simp only [PyData.depth]; exact Nat.succ_le_succ h.d⟩
  have h1 := tupleText_len_le (PyData.shownAll ds)
  have h2 := PyData.shownAll_length ds
  have h3 := h.u
  simp only [PyData.shown]
  omega
theorem ShA.lst {ds : List PyData} {D U : Nat} (h : ShA ds D U) : Sh (.list ds) (D + 1) (U + 3) := by
  refine ⟨by simpa [PyData.showable] using h.s, by simpa [PyData.hasDict] using h.n, ?_, by simp only [PyData.depth]; exact Nat.succ_le_succ h.d⟩
  have h1 := listText_len_le (PyData.shownAll ds)
  have h2 := PyData.shownAll_length ds
  have h3 := h.u
  simp only [PyData.shown]
  omega
theorem sh_w {w : Wd} {n : Nat} (h : ∀ c ∈ w, c < 16 ^ 8) (hl : w.length ≤ n) : Sh (wD w) 0 (10 * n + 2) := by
  refine ⟨by simp only [wD, PyData.showable], by simp only [wD, PyData.hasDict], ?_, by simp only [wD, PyData.depth]; exact Nat.le_refl _⟩
  simp only [wD, PyData.shown]
  have h1 := StrLaws.reprText_len (S w) (by simpa [S, SX.S] using h)
  rw [S_length] at h1
  have h2 : (reprText (S w)).length ≤ 10 * w.length + 2 := h1
  exact Nat.le_trans h2 (by omega)
theorem pow_small {m : Nat} (hm : m ≤ 30) : (10 : Nat) ^ m < 2 ^ 1920 := Nat.lt_of_le_of_lt (Nat.pow_le_pow_right (by decide) hm) (by decide +kernel)
theorem sh_n {k m : Nat} (h : k < 10 ^ m) (hm : m ≤ 30) (h0 : 0 < m) : Sh (.int (k : Nat)) 0 (m + 1) := by
  refine ⟨?_, by simp only [PyData.hasDict], ?_, by simp only [PyData.depth]; exact Nat.le_refl _⟩
  · simp only [PyData.showable, decide_eq_true_eq]
    exact log2_small (Nat.lt_trans (by simpa using h) (pow_small hm))
  · simp only [PyData.shown]
    rw [PySem.ofString_length]
    exact (int_text_length_le10 (a := (k : Int)) h0 (by simpa using h))
/-- how long a term's text may be -/
def T.U : T → Nat
  | .n2 _ x y => 60 + x.U + y.U
  | .n3 _ x y z => 60 + x.U + y.U + z.U
  | _ => 180
def T.fit : T → Prop
  | .at k => k < 2000
  | .maker _ k => k < 10 ^ 30
  | .n2 _ x y => x.fit ∧ y.fit
  | .n3 _ x y z => x.fit ∧ y.fit ∧ z.fit
  | _ => True
theorem name_sh {n : Wd} (h : isName n = true) : Sh (wD n) 0 82 := sh_w (n := 8) (fun c hc => by have := isName_low h c hc; omega) (isName_len h).2
theorem T.sh : ∀ t : T, t.ok → t.fit → Sh t.data t.ht t.U
  | .thing n, h, _ => (ShA.tup (.cons (sh_w (w := wThing) (n := 5) (by decide) (by decide)) (.cons (name_sh h) .nil))).le (Nat.le_refl _) (by show 52 + 2 + (82 + 2 + 0) + 3 ≤ 180; decide)
  | .at k, _, h => (ShA.tup (.cons (sh_w (w := [97, 116]) (n := 5) (by decide) (by decide)) (.cons (sh_n (m := 4) (Nat.lt_trans h (by decide)) (by decide) (by decide)) .nil))).le (Nat.le_refl _) (by show 52 + 2 + (5 + 2 + 0) + 3 ≤ 180; decide)
  | .kind k, h, _ => (ShA.tup (.cons (sh_w (w := [107, 105, 110, 100]) (n := 5) (by decide) (by decide)) (.cons (sh_n (m := 4) (Nat.lt_of_le_of_lt h (by decide)) (by decide) (by decide)) .nil))).le (Nat.le_refl _) (by show 52 + 2 + (5 + 2 + 0) + 3 ≤ 180; decide)
  | .name n, h, _ => (ShA.tup (.cons (sh_w (w := [110, 97, 109, 101]) (n := 5) (by decide) (by decide)) (.cons (name_sh h) .nil))).le (Nat.le_refl _) (by show 52 + 2 + (82 + 2 + 0) + 3 ≤ 180; decide)
  | .maker n k, h, g => (ShA.tup (.cons (sh_w (w := wMaker) (n := 5) (by decide) (by decide)) (.cons (name_sh h) (.cons (sh_n (m := 30) g (by decide) (by decide)) .nil)))).le (Nat.le_refl _) (by show 52 + 2 + (82 + 2 + (31 + 2 + 0)) + 3 ≤ 180; decide)
  | .eater n k, h, _ => (ShA.tup (.cons (sh_w (w := [101, 97, 116, 101, 114]) (n := 5) (by decide) (by decide)) (.cons (name_sh h.1) (.cons (sh_n (m := 30) (Nat.lt_of_le_of_lt h.2 (by decide)) (by decide) (by decide)) .nil)))).le (Nat.le_refl _) (by show 52 + 2 + (82 + 2 + (31 + 2 + 0)) + 3 ≤ 180; decide)
  | .n2 w x y, h, g => by
    have hw : Sh (wD w) 0 42 := sh_w (n := 4) (by rcases h.1 with h | h | h | h <;> rw [h] <;> decide) (by rcases h.1 with h | h | h | h <;> rw [h] <;> decide)
    have hx := x.sh h.2.1 g.1
    have hy := y.sh h.2.2 g.2
    refine (ShA.tup (D := max x.ht y.ht) (.cons (hw.le (Nat.zero_le _) (Nat.le_refl _)) (.cons (hx.le (Nat.le_max_left _ _) (Nat.le_refl _)) (.cons (hy.le (Nat.le_max_right _ _) (Nat.le_refl _)) .nil)))).le (Nat.le_refl _) ?_
    show _ ≤ 60 + x.U + y.U
    omega
  | .n3 w x y z, h, g => by
    have hw : Sh (wD w) 0 42 := sh_w (n := 4) (by rcases h.1 with h | h <;> rw [h] <;> decide) (by rcases h.1 with h | h <;> rw [h] <;> decide)
    have hx := x.sh h.2.1 g.1
    have hy := y.sh h.2.2.1 g.2.1
    have hz := z.sh h.2.2.2 g.2.2
    refine (ShA.tup (D := max x.ht (max y.ht z.ht)) (.cons (hw.le (Nat.zero_le _) (Nat.le_refl _)) (.cons (hx.le (by omega) (Nat.le_refl _)) (.cons (hy.le (by omega) (Nat.le_refl _)) (.cons (hz.le (by omega) (Nat.le_refl _)) .nil))))).le (Nat.le_refl _) ?_
    show _ ≤ 60 + x.U + y.U + z.U
    omega
/-! ### what is read is short -/
theorem digs_lt : ∀ (cs : List Nat) (a : Nat), (∀ c ∈ cs, 48 ≤ c ∧ c ≤ 57) → cs.foldl (fun acc c => acc * 10 + (c - 48)) a < (a + 1) * 10 ^ cs.length
  | [], a, _ => by simp
  | c :: cs, a, h => by
    have ih := digs_lt cs (a * 10 + (c - 48)) fun d hd => h d (List.mem_cons_of_mem _ hd)
    have hc := h c List.mem_cons_self
    rw [List.foldl_cons, List.length_cons]
    refine Nat.lt_of_lt_of_le ih ?_
    rw [Nat.pow_succ, Nat.mul_comm (10 ^ cs.length) 10, ← Nat.mul_assoc]
    exact Nat.mul_le_mul_right _ (by omega)
theorem figs_lt {w : Wd} {k : Nat} (h : figs 30 w = some k) : k < 10 ^ 30 := by
  obtain ⟨_, h2, h3, h4, _⟩ := figs_some h
  have := digs_lt w 0 h3
  rw [h4]
  refine Nat.lt_of_lt_of_le (show NumText.digitsVal w < (0 + 1) * 10 ^ w.length from this) ?_
  rw [Nat.zero_add, Nat.one_mul]
  exact Nat.pow_le_pow_right (by decide) h2
theorem place_lt {w : Wd} {ar : Ar} {k : Nat} (h : placeOf w ar = some k) : k < ar.length := by
  unfold placeOf at h
  split at h
  · cases h
  · split at h
    · rename_i hm
      cases h
      rw [← List.length_reverse]
      exact List.idxOf_lt_length_iff.mpr (List.mem_reverse.mpr hm)
    · cases h
theorem lone_fit {w : Wd} {ar : Ar} {t : T} (h : lone w ar = some t) (ha : ar.length ≤ 1999) : t.fit ∧ t.U = 180 := by
  unfold lone at h
  split at h
  · cases h; exact ⟨trivial, rfl⟩
  split at h
  · cases e : hgt (w.drop 1) with
    | none => rw [e] at h; cases h
    | some k => rw [e] at h; cases h; exact ⟨trivial, rfl⟩
  split at h
  · split at h
    · cases h; exact ⟨trivial, rfl⟩
    · cases h
  split at h
  · unfold makerOf at h
    split at h
    · cases e : figs 30 (behind 35 w) with
      | none => rw [e] at h; cases h
      | some k => rw [e] at h; cases h; exact ⟨figs_lt e, rfl⟩
    · cases h
  split at h
  · unfold eaterOf at h
    split at h
    · cases e : hgt (behind 33 w) with
      | none => rw [e] at h; cases h
      | some k => rw [e] at h; cases h; exact ⟨trivial, rfl⟩
    · cases h
  · cases e : placeOf w ar with
    | none => rw [e] at h; cases h
    | some k =>
      rw [e] at h; cases h
      have := place_lt e
      exact ⟨by show k < 2000; omega, rfl⟩
def Md.bU : Md → Nat
  | .more f => f.U
  | _ => 0
def Md.ad : Md → Nat
  | .more _ => 0
  | _ => 60
def Md.fitm : Md → Prop
  | .more f => f.fit
  | _ => True
theorem rd_fit_ : ∀ (n : Nat) (m : Md) (ar : Ar) (ws : List Wd) (t : T) (r : List Wd), 4 * ws.length + m.rank ≤ n → m.fitm → ar.length + ws.length ≤ 1999 → rd m ar ws = some (t, r) → t.fit ∧ t.U + m.ad + 240 * r.length ≤ m.bU + 240 * ws.length := by
  intro n
  induction n with
  | zero =>
    intro m ar ws t r hn _ _ h
    have hw : ws = [] := List.eq_nil_of_length_eq_zero (by omega)
    subst hw
    have := rd_lt h
    cases m <;> simp [Md.rank] at hn
    simp [Md.lt] at this
  | succ n ih =>
    intro m ar ws t r hn hf ha h
    have key : ∀ {m' : Md} {ar' : Ar} {ws' : List Wd} {t' : T} {r' : List Wd}, rd m' ar' ws' = some (t', r') → 4 * ws'.length + m'.rank ≤ n → m'.fitm → ar'.length + ws'.length ≤ 1999 → t'.fit ∧ t'.U + m'.ad + 240 * r'.length ≤ m'.bU + 240 * ws'.length := by
      intro m' ar' ws' t' r' e hl hk ha'
      exact ih m' ar' _ _ _ hl hk ha' e
    have d : ∀ (l : List Wd) (k : Nat), (l.drop k).length = l.length - k := fun l k => List.length_drop
    have sn : ∀ o : Option Nat, (ar ++ [o]).length = ar.length + 1 := fun o => by simp
    cases m with
    | term =>
      rw [rd_term] at h
      simp only [Md.rank, Md.bU, Md.ad] at hn ⊢
      split at h
      · rename_i hh
        have hne : hd ws ≠ [] := by rcases hh with h | h <;> rw [h] <;> decide
        have hlen := drop_lt hne (k := 3) (by decide)
        have d3 := d ws 3
        cases eb : bnd (hd (ws.drop 1)) with
        | none => rw [eb] at h; cases h
        | some k =>
          rw [eb, Option.bind_some] at h
          split at h
          · cases e : rd .term ar (ws.drop 3) with
            | none => rw [e] at h; cases h
            | some p =>
              obtain ⟨s, r1⟩ := p
              rw [e, Option.bind_some] at h
              obtain ⟨k1, k2⟩ := key e (by simp only [Md.rank]; omega) trivial (by omega)
              have l1 := term_lt e
              simp only [Md.bU, Md.ad] at h k2
              have d1 := d r1 1
              split at h
              · cases e2 : rd .term (ar ++ [some k]) (r1.drop 1) with
                | none => rw [e2] at h; cases h
                | some q =>
                  obtain ⟨b, r2⟩ := q
                  rw [e2, Option.bind_some] at h
                  cases h
                  have l2 := term_lt e2
                  have := sn (some k)
                  obtain ⟨j1, j2⟩ := key e2 (by simp only [Md.rank]; omega) trivial (by omega)
                  simp only [Md.bU, Md.ad] at j2
                  refine ⟨⟨k1, j1⟩, ?_⟩
                  show 60 + s.U + b.U + 60 + 240 * r2.length ≤ _
                  omega
              · cases h
          · cases h
      · cases e : rd .row ar ws with
        | none => rw [e] at h; cases h
        | some p =>
          obtain ⟨s, r1⟩ := p
          rw [e, Option.bind_some] at h
          obtain ⟨k1, k2⟩ := key e (by simp only [Md.rank]; omega) trivial ha
          simp only [Md.bU, Md.ad] at h k2
          have l1 := row_lt e
          have d1 := d r1 1
          split at h
          · cases e2 : rd .term (ar ++ [none]) (r1.drop 1) with
            | none => rw [e2] at h; cases h
            | some q =>
              obtain ⟨b, r2⟩ := q
              rw [e2, Option.bind_some] at h
              cases h
              have := term_lt e2
              have := sn none
              obtain ⟨j1, j2⟩ := key e2 (by simp only [Md.rank]; omega) trivial (by omega)
              simp only [Md.bU, Md.ad] at j2
              refine ⟨⟨k1, j1⟩, ?_⟩
              show 60 + s.U + b.U + 60 + 240 * r2.length ≤ _
              omega
          · cases h
            exact ⟨k1, k2⟩
    | row =>
      rw [rd_row] at h
      simp only [Md.rank, Md.bU, Md.ad] at hn ⊢
      have d1 := d ws 1
      split at h
      · rename_i hh
        have hne : hd ws ≠ [] := by rcases hh with h | h <;> rw [h] <;> decide
        have hlen := drop_lt hne (k := 1) (by decide)
        cases e : rd .part ar (ws.drop 1) with
        | none => rw [e] at h; cases h
        | some p =>
          obtain ⟨x, r1⟩ := p
          rw [e, Option.bind_some] at h
          obtain ⟨k1, k2⟩ := key e (by simp only [Md.rank]; omega) trivial (by omega)
          have l1 := part_lt e
          simp only [Md.bU, Md.ad] at h k2
          cases e2 : rd .part ar r1 with
          | none => rw [e2] at h; cases h
          | some q =>
            obtain ⟨y, r2⟩ := q
            rw [e2, Option.bind_some] at h
            obtain ⟨j1, j2⟩ := key e2 (by simp only [Md.rank]; omega) trivial (by omega)
            have l2 := part_lt e2
            simp only [Md.bU, Md.ad] at h j2
            cases e3 : rd .part ar r2 with
            | none => rw [e3] at h; cases h
            | some s =>
              obtain ⟨z, r3⟩ := s
              rw [e3, Option.bind_some] at h
              cases h
              obtain ⟨i1, i2⟩ := key e3 (by simp only [Md.rank]; omega) trivial (by omega)
              simp only [Md.bU, Md.ad] at i2
              refine ⟨⟨k1, j1, i1⟩, ?_⟩
              show 60 + x.U + y.U + z.U + 60 + 240 * r3.length ≤ _
              omega
      · split at h
        · rename_i hh
          have hne : hd ws ≠ [] := by rw [hh]; decide
          have hlen := drop_lt hne (k := 1) (by decide)
          cases e : rd .part ar (ws.drop 1) with
          | none => rw [e] at h; cases h
          | some p =>
            obtain ⟨x, r1⟩ := p
            rw [e, Option.bind_some] at h
            obtain ⟨k1, k2⟩ := key e (by simp only [Md.rank]; omega) trivial (by omega)
            have l1 := part_lt e
            simp only [Md.bU, Md.ad] at h k2
            cases e2 : rd .part ar r1 with
            | none => rw [e2] at h; cases h
            | some q =>
              obtain ⟨y, r2⟩ := q
              rw [e2, Option.bind_some] at h
              cases h
              obtain ⟨j1, j2⟩ := key e2 (by simp only [Md.rank]; omega) trivial (by omega)
              simp only [Md.bU, Md.ad] at j2
              refine ⟨⟨k1, j1⟩, ?_⟩
              show 60 + x.U + y.U + 60 + 240 * r2.length ≤ _
              omega
        · cases e : rd .part ar ws with
          | none => rw [e] at h; cases h
          | some p =>
            obtain ⟨x, r1⟩ := p
            rw [e, Option.bind_some] at h
            obtain ⟨k1, k2⟩ := key e (by simp only [Md.rank]; omega) trivial ha
            have l1 := part_lt e
            simp only [Md.bU, Md.ad] at h k2
            obtain ⟨j1, j2⟩ := key h (by simp only [Md.rank]; omega) k1 (by omega)
            simp only [Md.bU, Md.ad] at j2
            exact ⟨j1, by omega⟩
    | part =>
      rw [rd_part] at h
      simp only [Md.rank, Md.bU, Md.ad] at hn ⊢
      have d1 := d ws 1
      split at h
      · rename_i hh
        have hne : hd ws ≠ [] := by rw [hh]; decide
        have hlen := drop_lt hne (k := 1) (by decide)
        cases e : rd .term ar (ws.drop 1) with
        | none => rw [e] at h; cases h
        | some p =>
          obtain ⟨x, r1⟩ := p
          rw [e, Option.bind_some] at h
          obtain ⟨k1, k2⟩ := key e (by simp only [Md.rank]; omega) trivial (by omega)
          simp only [Md.bU, Md.ad] at h k2
          split at h
          · cases h
            have := d r1 1
            exact ⟨k1, by omega⟩
          · cases h
      · cases e : lone (hd ws) ar with
        | none => rw [e] at h; cases h
        | some t =>
          have hlen := drop_lt (lone_ne e) (k := 1) (by decide)
          rw [e] at h
          cases h
          obtain ⟨o1, o2⟩ := lone_fit e (by omega)
          exact ⟨o1, by omega⟩
    | more f =>
      rw [rd_more] at h
      simp only [Md.rank, Md.bU, Md.ad] at hn ⊢
      split at h
      · cases e : rd .part ar ws with
        | none => rw [e] at h; cases h
        | some p =>
          obtain ⟨x, r1⟩ := p
          rw [e, Option.bind_some] at h
          obtain ⟨k1, k2⟩ := key e (by simp only [Md.rank]; omega) trivial ha
          have l1 := part_lt e
          simp only [Md.bU, Md.ad] at h k2
          obtain ⟨j1, j2⟩ := key h (by simp only [Md.rank]; omega) ⟨hf, k1⟩ (by omega)
          have j2 : t.U + 0 + 240 * r.length ≤ 60 + f.U + x.U + 240 * r1.length := j2
          exact ⟨j1, by omega⟩
      · cases h
        exact ⟨hf, by omega⟩
theorem rdW_fit {ws : List Wd} {k : Nat} {t : T} (h : rdW ws k = some t) (hk : k + ws.length ≤ 1999) : t.fit ∧ t.U ≤ 240 * ws.length := by
  unfold rdW at h
  cases e : rd .term ((List.range k).map some) ws with
  | none => rw [e] at h; cases h
  | some p =>
    obtain ⟨t', r⟩ := p
    rw [e] at h
    cases r with
    | nil =>
      cases h
      obtain ⟨h1, h2⟩ := rd_fit_ _ .term _ _ _ _ (Nat.le_refl _) trivial (by simpa using hk) e
      simp only [Md.bU, Md.ad, List.length_nil] at h2
      exact ⟨h1, by omega⟩
    | cons _ _ => cases h
/-! ### rows -/
def tsU (ts : List T) : Nat := (ts.map fun t => t.U + 2).sum
def msU (ms : List (List T)) : Nat := (ms.map fun l => 8 + tsU l).sum
def Row.U : Row → Nat
  | .thing _ _ bs ms => 400 + tsU bs + msU ms
  | .mean _ a b => 400 + a.U + b.U
  | .hold _ t => 400 + t.U
def Row.fit : Row → Prop
  | .thing _ _ bs ms => (∀ t ∈ bs, t.fit) ∧ ∀ l ∈ ms, ∀ t ∈ l, t.fit
  | .mean _ a b => a.fit ∧ b.fit
  | .hold _ t => t.fit
theorem ts_sh {m : Nat} : ∀ ts : List T, (∀ t ∈ ts, t.ok ∧ t.ht ≤ m) → (∀ t ∈ ts, t.fit) → ShA (ts.map T.data) m (tsU ts)
  | [], _, _ => .nil
  | t :: ts, h, g => by
    have ih := ts_sh ts (fun u hu => h u (List.mem_cons_of_mem _ hu)) fun u hu => g u (List.mem_cons_of_mem _ hu)
    obtain ⟨h1, h2⟩ := h t List.mem_cons_self
    exact .cons ((t.sh h1 (g t List.mem_cons_self)).le h2 (Nat.le_refl _)) ih
theorem ms_sh {m : Nat} : ∀ ms : List (List T), (∀ l ∈ ms, ∀ t ∈ l, t.ok ∧ t.ht ≤ m) → (∀ l ∈ ms, ∀ t ∈ l, t.fit) → ShA (ms.map tsD) (m + 1) (msU ms)
  | [], _, _ => .nil
  | l :: ms, h, g => by
    have ih := ms_sh ms (fun u hu => h u (List.mem_cons_of_mem _ hu)) fun u hu => g u (List.mem_cons_of_mem _ hu)
    refine (ShA.cons (ts_sh l (h l List.mem_cons_self) (g l List.mem_cons_self)).tup ih).le (Nat.le_refl _) ?_
    show tsU l + 3 + 2 + msU ms ≤ 8 + tsU l + msU ms
    omega
theorem Row.sh {m : Nat} : ∀ r : Row, r.ok m → r.fit → Sh r.data (m + 3) r.U
  | .thing n k bs ms, h, g => by
    have h1 := (ts_sh bs h.2.2.1 g.1).tup
    have h2 := (ms_sh ms h.2.2.2.1 g.2).tup
    have hk : Sh (.int (k : Nat)) 0 5 := sh_n (m := 4) (Nat.lt_of_le_of_lt h.2.1 (by decide)) (by decide) (by decide)
    refine (ShA.tup (D := m + 2) (.cons ((sh_w (w := wThing) (n := 5) (by decide) (by decide)).le (Nat.zero_le _) (Nat.le_refl _)) (.cons ((name_sh h.1).le (Nat.zero_le _) (Nat.le_refl _)) (.cons (hk.le (Nat.zero_le _) (Nat.le_refl _)) (.cons (h1.le (by omega) (Nat.le_refl _)) (.cons h2 .nil)))))).le (Nat.le_refl _) ?_
    show _ ≤ 400 + tsU bs + msU ms
    omega
  | .mean n a b, h, g => by
    have h1 := a.sh h.2.1.1 g.1
    have h2 := b.sh h.2.2.1 g.2
    have := h.2.1.2
    have := h.2.2.2
    refine (ShA.tup (D := m + 2) (.cons ((sh_w (w := wMean) (n := 5) (by decide) (by decide)).le (Nat.zero_le _) (Nat.le_refl _)) (.cons ((name_sh h.1).le (Nat.zero_le _) (Nat.le_refl _)) (.cons (h1.le (by omega) (Nat.le_refl _)) (.cons (h2.le (by omega) (Nat.le_refl _)) .nil))))).le (Nat.le_refl _) ?_
    show _ ≤ 400 + a.U + b.U
    omega
  | .hold n t, h, g => by
    have h1 := t.sh h.2.1 g
    have := h.2.2
    refine (ShA.tup (D := m + 2) (.cons ((sh_w (w := wHold) (n := 5) (by decide) (by decide)).le (Nat.zero_le _) (Nat.le_refl _)) (.cons ((name_sh h.1).le (Nat.zero_le _) (Nat.le_refl _)) (.cons (h1.le (by omega) (Nat.le_refl _)) .nil)))).le (Nat.le_refl _) ?_
    show _ ≤ 400 + t.U
    omega
def rowsU (rows : List Row) : Nat := (rows.map fun r => r.U + 2).sum
theorem rows_sh : ∀ rows : List Row, (∀ r ∈ rows, r.ok maxHt) → (∀ r ∈ rows, r.fit) → ShA (rowsD rows) (maxHt + 3) (rowsU rows)
  | [], _, _ => .nil
  | r :: rows, h, g => by
    have ih := rows_sh rows (fun u hu => h u (List.mem_cons_of_mem _ hu)) fun u hu => g u (List.mem_cons_of_mem _ hu)
    exact .cons (r.sh (h r List.mem_cons_self) (g r List.mem_cons_self)) ih
theorem rowsU_app (a b : List Row) : rowsU (a ++ b) = rowsU a + rowsU b := by simp [rowsU]
theorem tsU_app (a b : List T) : tsU (a ++ b) = tsU a + tsU b := by simp [tsU]
theorem msU_app (a b : List (List T)) : msU (a ++ b) = msU a + msU b := by simp [msU]
theorem rowsU_one (r : Row) : rowsU [r] = r.U + 2 := by simp [rowsU]
theorem last_app {α : Type} {l : List α} {x : α} (h : l.getLast? = some x) : l = l.dropLast ++ [x] := by
  have hne : l ≠ [] := by rintro rfl; cases h
  rw [List.getLast?_eq_some_getLast hne] at h
  cases h
  exact (List.dropLast_concat_getLast hne).symm
theorem lineF_fit {j : Nat} {ws : List Wd} {rows rows' : List Row} (h : lineF ws rows = some rows') (hc : ws.length ≤ 210) (hj : j ≤ 800) (hr : RowsOk j rows) (hf : ∀ r ∈ rows, r.fit) : (∀ r ∈ rows', r.fit) ∧ rowsU rows' ≤ rowsU rows + 52000 := by
  have app : ∀ r : Row, r.fit → r.U ≤ 51500 → (∀ x ∈ rows ++ [r], x.fit) ∧ rowsU (rows ++ [r]) ≤ rowsU rows + 52000 := fun r h1 h2 => by
    refine ⟨fun x hx => ?_, by rw [rowsU_app, rowsU_one]; omega⟩
    rcases List.mem_append.mp hx with hx | hx
    · exact hf x hx
    · rw [List.mem_singleton.mp hx]; exact h1
  have put : ∀ r r0 : Row, r.fit → r.U ≤ r0.U + 51500 → rows.getLast? = some r0 → (∀ x ∈ rows.dropLast ++ [r], x.fit) ∧ rowsU (rows.dropLast ++ [r]) ≤ rowsU rows + 52000 := fun r r0 h1 h2 h0 => by
    refine ⟨fun x hx => ?_, ?_⟩
    · rcases List.mem_append.mp hx with hx | hx
      · exact hf x (List.dropLast_subset _ hx)
      · rw [List.mem_singleton.mp hx]; exact h1
    · have := congrArg rowsU (last_app h0)
      rw [rowsU_app, rowsU_one] at this ⊢
      omega
  have dl : ∀ k, (ws.drop k).length ≤ 210 := fun k => by rw [List.length_drop]; omega
  unfold lineF at h
  split at h
  · unfold lThing at h
    split at h
    · cases e : hgt (w2 ws) with
      | none => rw [e] at h; cases h
      | some k =>
        rw [e] at h
        cases h
        exact app _ ⟨by simp, by simp⟩ (by simp [Row.U, tsU, msU])
    · cases h
  split at h
  · unfold lBound at h
    split at h
    · rename_i n hh bs hl
      obtain ⟨o1, o2⟩ := hr.2 _ (List.mem_of_getLast? hl)
      have f1 := hf _ (List.mem_of_getLast? hl)
      cases e : rdW (ws.drop 1) bs.length with
      | none => rw [e] at h; cases h
      | some t =>
        rw [e] at h
        cases h
        have d1 := dl 1
        obtain ⟨g1, g2⟩ := rdW_fit e (by have := o2.1; omega)
        refine put _ _ ⟨fun u hu => ?_, by simp⟩ ?_ hl
        · rcases List.mem_append.mp hu with hu | hu
          · exact f1.1 u hu
          · rw [List.mem_singleton.mp hu]; exact g1
        · simp only [Row.U, tsU_app]
          have : tsU [t] = t.U + 2 := by simp [tsU]
          omega
    · cases h
  split at h
  · unfold lMaker at h
    split at h
    · rename_i n hh bs ms hl
      have f1 := hf _ (List.mem_of_getLast? hl)
      split at h
      · cases h
        refine put _ _ ⟨f1.1, fun l hl => ?_⟩ ?_ hl
        · rcases List.mem_append.mp hl with hl | hl
          · exact f1.2 l hl
          · rw [List.mem_singleton.mp hl]; simp
        · simp only [Row.U, msU_app]
          have : msU [[]] = 8 := by simp [msU, tsU]
          omega
      · cases h
    · cases h
  split at h
  · unfold lArg at h
    split at h
    · rename_i n hh bs ms hl
      obtain ⟨o1, o2⟩ := hr.2 _ (List.mem_of_getLast? hl)
      have f1 := hf _ (List.mem_of_getLast? hl)
      split at h
      · rename_i la hla
        have hm := List.mem_of_getLast? hla
        cases e : rdW (ws.drop 1) (bs.length + la.length) with
        | none => rw [e] at h; cases h
        | some t =>
          rw [e] at h
          cases h
          have d1 := dl 1
          have q3 := o2.2.2 la hm
          obtain ⟨g1, g2⟩ := rdW_fit e (by have := o2.1; omega)
          refine put _ _ ⟨f1.1, fun l hl => ?_⟩ ?_ hl
          · rcases List.mem_append.mp hl with hl | hl
            · exact f1.2 l (List.dropLast_subset _ hl)
            · rw [List.mem_singleton.mp hl]
              intro u hu
              rcases List.mem_append.mp hu with hu | hu
              · exact f1.2 la hm u hu
              · rw [List.mem_singleton.mp hu]; exact g1
          · have h3 := congrArg msU (last_app hla)
            have h4 : ∀ l, msU [l] = 8 + tsU l := fun l => by simp [msU]
            have h5 : tsU [t] = t.U + 2 := by simp [tsU]
            rw [msU_app, h4] at h3
            simp only [Row.U, msU_app, h4, tsU_app, h5]
            omega
      · cases h
    · cases h
  split at h
  · unfold lMean at h
    split at h
    · cases e : rdW ((ws.take (ws.idxOf wEq)).drop 3) 0 with
      | none => rw [e] at h; cases h
      | some a =>
        rw [e, Option.bind_some] at h
        cases e2 : rdW (ws.drop (ws.idxOf wEq + 1)) 0 with
        | none => rw [e2] at h; cases h
        | some b =>
          rw [e2] at h
          cases h
          obtain ⟨g1, g2⟩ := rdW_fit e (by rw [List.length_drop, List.length_take]; omega)
          obtain ⟨g3, g4⟩ := rdW_fit e2 (by rw [List.length_drop]; omega)
          rw [List.length_drop, List.length_take] at g2
          rw [List.length_drop] at g4
          exact app _ ⟨g1, g3⟩ (by simp only [Row.U]; omega)
    · cases h
  split at h
  · unfold lHold at h
    split at h
    · cases e : rdW (ws.drop 3) 0 with
      | none => rw [e] at h; cases h
      | some a =>
        rw [e] at h
        cases h
        have d3 := dl 3
        obtain ⟨g1, g2⟩ := rdW_fit e (by omega)
        exact app _ g1 (by simp only [Row.U]; omega)
    · cases h
  · cases h
/-! ### texts -/
theorem linesF_fit : ∀ (ls : List Wd) (k : Nat) (rows : List Row), (∀ l ∈ ls, cost 0 (toks l) ≤ maxHt ∧ cost 3 (toks l) < mostCost) → k + ls.length ≤ 800 → RowsOk k rows → (∀ r ∈ rows, r.fit) →
    (∀ j, linesF k rows ls = .line j → j < k + ls.length) ∧ ∀ rows', linesF k rows ls = .rows rows' → (∀ r ∈ rows', r.ok maxHt) ∧ (∀ r ∈ rows', r.fit) ∧ rows'.length ≤ k + ls.length ∧ rowsU rows' ≤ rowsU rows + 52000 * ls.length
  | [], k, rows, _, _, hr, hf => by
    refine ⟨fun j h => (by cases h), fun rows' h => ?_⟩
    cases h
    exact ⟨fun r h => (hr.2 r h).1, hf, hr.1, Nat.le_refl _⟩
  | l :: ls, k, rows, hl, hk, hr, hf => by
    rw [List.length_cons] at hk
    have e : linesF k rows (l :: ls) = (match lineF (toks l) rows with | none => Got.line k | some rows' => linesF (k + 1) rows' ls) := rfl
    cases h : lineF (toks l) rows with
    | none =>
      rw [h] at e
      refine ⟨fun j h => ?_, fun rows' h => ?_⟩
      · rw [e] at h
        cases h
        rw [List.length_cons]
        omega
      · rw [e] at h; cases h
    | some rows2 =>
      rw [h] at e
      have h1 := lineF_ok h (hl l List.mem_cons_self).1 (by omega) hr
      obtain ⟨h2, h3⟩ := lineF_fit h (Nat.le_trans (len_cost _) (Nat.le_of_lt (hl l List.mem_cons_self).2)) (by omega) hr hf
      obtain ⟨i1, i2⟩ := linesF_fit ls (k + 1) rows2 (fun u hu => hl u (List.mem_cons_of_mem _ hu)) (by omega) h1 h2
      refine ⟨fun j h => ?_, fun rows' h => ?_⟩
      · rw [e] at h
        have := i1 j h
        rw [List.length_cons]
        omega
      · rw [e] at h
        obtain ⟨j1, j2, j3, j4⟩ := i2 rows' h
        rw [List.length_cons]
        exact ⟨j1, j2, by omega, by omega⟩
theorem chkL_mem : ∀ (rows : List Row) (seen : List Wd), (∀ r, chkL seen rows = .row r → r ∈ rows) ∧ ∀ n, chkL seen rows = .doubled n → ∃ r ∈ rows, n = r.name
  | [], seen => ⟨fun r h => (by cases h), fun n h => (by cases h)⟩
  | r :: rows, seen => by
    obtain ⟨i1, i2⟩ := chkL_mem rows (r.name :: seen)
    refine ⟨fun q h => ?_, fun n h => ?_⟩
    · unfold chkL at h
      split at h
      · split at h
        · cases h
        · exact List.mem_cons_of_mem _ (i1 q h)
      · cases h; exact List.mem_cons_self
    · unfold chkL at h
      split at h
      · split at h
        · cases h; exact ⟨r, List.mem_cons_self, rfl⟩
        · obtain ⟨x, h1, h2⟩ := i2 n h
          exact ⟨x, List.mem_cons_of_mem _ h1, h2⟩
      · cases h
theorem tell_sh {t : List Nat} (h : GoodT2 t) : Sh (tell (readF t)) 140 13000000 := by
  have hm := h.g.many
  obtain ⟨h1, h2⟩ := linesF_fit (linesOf t) 0 [] (fun l hl => (h.g.line l hl).2) (by omega) ⟨Nat.le_refl _, by simp⟩ (by simp)
  rw [← show readF t = linesF 0 [] (linesOf t) from rfl] at h1 h2
  cases e : readF t with
  | line k =>
    have := h1 k e
    exact (ShA.tup (.cons (sh_w (w := wLine) (n := 5) (by decide) (by decide)) (.cons (sh_n (m := 4) (by omega) (by decide) (by decide)) .nil))).le (by decide) (by decide)
  | rows rows =>
    obtain ⟨j1, j2, j3, j4⟩ := h2 rows e
    have hU : rowsU rows ≤ 5200000 := by
      have : rowsU [] = 0 := rfl
      omega
    have hrs := (rows_sh rows j1 j2).lst
    show Sh (tellC rows (chk rows)) _ _
    have one : ∀ {w : Wd} {d : PyData} {D U : Nat}, w.length ≤ 10 → (∀ c ∈ w, c < 16 ^ 8) → Sh d D U → D ≤ 139 → U ≤ 12999000 → Sh (.tuple [wD w, d]) 140 13000000 := fun {w d D U} hw hc hd hD hU =>
      (ShA.tup (D := 139) (.cons ((sh_w hc hw).le (Nat.zero_le _) (Nat.le_refl _)) (.cons (hd.le hD (Nat.le_refl _)) .nil))).le (by decide) (by omega)
    have rU : ∀ r ∈ rows, r.U ≤ rowsU rows := fun r hr => by
      obtain ⟨a, b, rfl⟩ := List.append_of_mem hr
      rw [rowsU_app, show r :: b = [r] ++ b from rfl, rowsU_app, rowsU_one]
      omega
    cases ec : chk rows with
    | fine => exact one (by decide) (by decide) hrs (by decide) (by omega)
    | ground => exact one (by decide) (by decide) hrs (by decide) (by omega)
    | row r =>
      have hr : r ∈ rows := by
        unfold chk at ec
        split at ec
        · cases ec
        · exact (chkL_mem rows []).1 r ec
      have := rU r hr
      exact one (by decide) (by decide) (r.sh (j1 r hr) (j2 r hr)) (by decide) (by omega)
    | doubled n =>
      have hn : ∃ r ∈ rows, n = r.name := by
        unfold chk at ec
        split at ec
        · cases ec
        · exact (chkL_mem rows []).2 n ec
      obtain ⟨r, hr, rfl⟩ := hn
      exact one (by decide) (by decide) (name_sh (Row.ok_name (j1 r hr))) (by decide) (by decide)
end K83
namespace K83
open PySem PySem.Spec PyProof.Rows L2
open C8 (Cal pe_c CalAt)
section
variable {P : Program} {w : World} {K : PySem.W.Frag} {mg : Str → Option Value} {base : Heap}
/-! ### a Ground beside itself -/
def spGEq (K : PySem.W.Frag) : Sp := fun vs H Q _ => ∃ x, vs = [.ref x, .ref x] ∧ IsG K H x [] ∧ ∀ H', Same H H' → Q (.bl true) H'
abbrev N_Ground_eq : List Str := ["self", "other"]
theorem sc_Ground_eq : FnScope N_Ground_eq N_Ground_eq (defScope m_Ground_eq) := ⟨rfl, rfl, rfl, by decide +kernel, rfl, by decide +kernel, by decide +kernel⟩
theorem f_Ground_eq (T : Tx w K mg) : ∃ fd, FnOk P w K mg base CX0 2 (He.ma K (He.ga K "Ground") "__eq__") fd N_Ground_eq (spGEq K) ∧ Binds K fd N_Ground_eq [] := by
  obtain ⟨fd, F⟩ := T.d_Ground_eq
  have IC := insC T
  refine ⟨fd, F.ok sc_Ground_eq (fun vs H Q E h => by obtain ⟨_, rfl, _⟩ := h; rfl) (fun cdv A outer s H vs Q E hr h => ⟨_, PSs.nox (pss_one (ps_ret (pe_and (pe_callB (call_isGK (K := K) IC) rfl T.n_isinstance b_isinstance (pa_cons (pv 1) (pa_cons (gR T.g_Ground) pa_nil))) (pe_one (pe_cmpR (op_eqEL (K := K) hr.units) (pe_fld (pv 0) rfl) (pe_fld (pv 1) rfl) (nomark _)))))), ?_⟩), F.bindsN fun _ _ _ _ _ _ us hl => match us, hl with | [_, _], _ => rfl⟩
  obtain ⟨x, rfl, ⟨dx, l, kb, h1, h2⟩, q⟩ := h
  refine at_ret ?_
  refine ⟨_, rfl, x, dx, _, rfl, h1, _, rfl, iteT ?_⟩
  refine (es_op (K := K) (od_eqEL (ds := []) rfl) (es_fld (i := 0) rfl h1 T.c_Ground T.o_Ground_kept_rows rfl h2) (es_fld (i := 1) rfl h1 T.c_Ground T.o_Ground_kept_rows rfl h2)).at fun v H' e hv => ?_
  cases hv
  exact q H' e
theorem ns_some {K : PySem.W.Frag} {h : Heap} {N : Addr} {m : Str → Option Value} {n : Str} {v : Value} (X : K.In h) (G : h.Ns N m) (e : PySem.W.nsIn K N n = some (some v)) : m n = some v := by
  obtain ⟨o, es, ep, ho, hd, _, hf⟩ := G
  unfold PySem.W.nsIn at e
  split at e
  · rename_i q
    have h1 := X _ _ q
    rw [ho] at h1
    cases h1
    cases hd
    split at e
    · rename_i he
      cases e
      rw [← hf]
      unfold nsFind findBy
      rw [← Array.find?_toList, he]
      rfl
    · split at e <;> cases e
  · cases e
theorem own_ne {K : PySem.W.Frag} {h : Heap} {C f x : Addr} {o : Obj} (X : K.In h) (hn : neB K C f = true) (hx : h.get? x = some o) (hc : o.cls = .ref C) : h.OwnEqNoNe x C f "object" [.type "object"] := by
  obtain ⟨nm, q, N, bs, hd, sn, sub, ab, col, dd, k0, k1, k2, k3, k5, n, lk, e1, e2, e3, e4⟩ := neB_ok hn
  have G : h.Ns N (h.nsMap N) := .of_isNs (PySem.W.isNs_of_in X e4)
  unfold PySem.W.typeIn at e3
  obtain ⟨of, hof, hcf⟩ := Option.map_eq_some_iff.mp e3
  exact ⟨o, of, nm, q, N, bs, hd, sn, sub, ab, col, dd, k0, k1, k2, k3, k5, n, h.nsMap N, some (Value.builtin "object.__eq__"), hx, hc, X _ _ lk, G, ns_some X G e1, X _ _ hof, hcf, PySem.F.cmp_object.mro,
    (by rw [typeLookup_type, builtinLookup_eq_fast]; kernel_rfl), PySem.W.ns_none_of X G e2⟩
def rNeG (K : PySem.W.Frag) : R2 := fun x y H Q => ∃ a, x = .ref a ∧ y = .ref a ∧ IsG K H a [] ∧ ∀ H', Same H H' → Q (.bl false) H'
theorem op_neG {X : Cx} (T : Tx X.w X.K X.mg) (hr : Room 4 X.A) : OpR X (compareOp .NotEq) (rNeG X.K) := by
  intro pins s σ H x y v u Q I rx ry h
  obtain ⟨a, rfl, rfl, hG, q⟩ := h
  obtain rfl : v = Value.ref a := rx
  obtain rfl : u = Value.ref a := ry
  obtain ⟨dx, l, kb, h1, h2⟩ := id hG
  obtain ⟨mA, O, _⟩ := ins_get I.hok h1
  obtain ⟨od, J, _⟩ := O.look
  have N := own_ne I.kIn (fx_of T).ne J.at_ J.cls
  obtain ⟨fd, F, hb⟩ := f_Ground_eq (P := X.prog) (base := X.base) T
  have hsp : spGEq X.K [.ref a, .ref a] H (fun v H' => v = .bl true ∧ Q (.bl false) H') C8.E0 := ⟨a, rfl, hG, fun H' e => ⟨rfl, q H' e⟩⟩
  have hrun := F.run X.A.in1 X.stack s H ⟨[.ref a, .ref a], []⟩ [.ref a, .ref a] [.ref a, .ref a] _ _ ((hr.mono (j := 3) (by decide)).in1) I.env0.in1 (by have := hb s [.ref a, .ref a] I.kIn rfl; simpa using this) (.cons rfl (.cons rfl .nil)) hsp
  obtain ⟨hh, g, d, t, os⟩ := s
  refine compareOp_ne_ownEq PySem.F.cmp_object N J.at_ J.cls (by have := hr.un; omega) (wpAny_call (codeAny_mono hrun fun r s' hq => ?_))
  cases r with
  | error e => exact (show False from hq).elim
  | ok fl =>
    cases fl with
    | ret u =>
      obtain ⟨v', H', I', rv, hv, q'⟩ := I.after hq
      subst hv
      obtain rfl : u = Value.bool true := rv
      exact ⟨true, rfl, .bl false, H', I', rfl, q'⟩
    | next => exact False.elim hq
    | brk => exact False.elim hq
    | cont => exact False.elim hq
/-! ### the last comparison of the law -/
theorem op_or {X : Cx} {op : Value → Value → Sem Value} {r1 r2 : R2} (h1 : OpR X op r1) (h2 : OpR X op r2) : OpR X op (fun x y H Q => r1 x y H Q ∨ r2 x y H Q) := by
  intro pins s σ H x y v u Q I rx ry h
  rcases h with h | h
  · exact h1 pins s σ H x y v u Q I rx ry h
  · exact h2 pins s σ H x y v u Q I rx ry h
def rNeAll (K : PySem.W.Frag) : R2 := fun x y H Q => rNe x y H Q ∨ (rNeD K x y H Q ∨ (rNeDA x y H Q ∨ rNeG K x y H Q))
theorem op_neAll {X : Cx} {K : PySem.W.Frag} (T : Tx X.w X.K X.mg) (hr : Room 4 X.A) (hK : X.K = K := by rfl) : OpR X (compareOp .NotEq) (rNeAll K) := by
  subst hK
  exact op_or op_ne (op_or (op_neD hr.units) (op_or (op_ne_dictA hr.units0) (op_neG T hr)))
end
end K83
namespace K83
open PySem PySem.Spec PyProof.Rows L2
/-! ### a def that may ask that no guard stands below it -/
def FnG (P : Program) (w : World) (K : PySem.W.Frag) (mg : Str → Option Value) (base : Heap) (CX : CXT) (k : Nat) (f : Addr) (fd : FuncData) (ps : List Str) (sp : Sp) : Prop :=
  ∀ (B : Around) (below : List Env) (t : Shared) (G : Hp) (as : Args) (us : List Value) (vs : List V) (Q : VK) (E : XK), B.guards = some [] → Room k B → Env0 P w K mg base B below t G → BindsTo t fd as (ps.zip us) → Vals vs us → sp vs G Q E →
    codeAny (model P w) B (.call (.ref f) as) (CR CX below P w G t Q E) t
section
variable {P : Program} {w : World} {K : PySem.W.Frag} {mg : Str → Option Value} {base : Heap} {name qual : Str} {params : Arguments} {body : List Stmt} {scope : Scope} {f : Addr} {fd : FuncData} {CX : CXT} {N ps : List Str} {k : Nat} {sp : Sp}
theorem fnG_of {dvs : List V} {kws : List (Str × V)} (F : FunD K name qual params body scope dvs kws f fd) (S : FnScope N ps scope) (len : ∀ vs H Q E, sp vs H Q E → vs.length = ps.length)
    (hb : ∀ (cdv : Value) (B : Around) (below : List Env) (t : Shared) (G : Hp) (vs : List V) (Q : VK) (E : XK), B.guards = some [] → Room k (B.deeper (envOfC qual scope t.heap.objs.size f cdv)) → sp vs G Q E →
      ∃ r, PSs (cxOf CX P w K mg base N qual scope f cdv B below t G E) body r ∧ r { nx := fun _ G' => Q .non G', rt := Q } (start N vs) G) : FnG P w K mg base CX (k + 1) f fd ps sp := by
  obtain ⟨oc, od, dV, kV, doc, pm, an, cdv, ct, osl, rfl, lk, hcd, _, _⟩ := F.ex
  intro B below t G as us vs Q E hgu hro e0 hbi hva hsp
  have hlen := len _ _ _ _ hsp
  have kin : K.In t.heap := e0.mod.kin.keeps fun b o q => (e0.bs b o q).1
  have nol : t.heap.NoLimit := e0.mod.nolimit.keeps fun b o q => (e0.bs b o q).1
  have kinds : ∀ y ∈ ps.zip us, scope.names.lookup y.1 = some .local ∨ (scope.names.lookup y.1 = some .cell ∧ ((cellsFrom (t.heap.objs.size + 1) scope.names []).lookup y.1).isSome = true) := by
    rintro ⟨n, v⟩ hy
    exact (S.par n (List.of_mem_zip hy).1).imp id fun q => ⟨q, PySem.W.cellsFrom_some _ _ _ (.inl q)⟩
  refine codeAny_call_function hro.depth (kin _ _ lk) rfl S.co S.gen rfl (PySem.W.codeRec_of kin hcd) (hbi _ _ _ _ ?_)
  refine wpAny_newFunctionEnv_cells S.kind kinds fun env he t1 x => ?_
  subst he
  refine ⟨nol.keeps x.toInCall.keep, codeAny_func ?_⟩
  obtain ⟨r, hr, hq⟩ := hb cdv B below t G vs Q E hgu (hro.deeper _) hsp
  have I := inv_start (CX := CX) (E := E) (w := w) (mg := mg) S hro.hd e0 hlen hva x
  refine wpAny_mono (hr.run [] t1 (start N vs) G _ I hq) (fun fl t2 h2 => ?_) fun e t2 h2 => h2
  cases fl with
  | ret u =>
    obtain ⟨v, σ', G', J, rv, q⟩ := h2
    exact ⟨v, G', J.os, J.bare, J.base, J.hok, rv, q⟩
  | next =>
    obtain ⟨σ', G', J, q⟩ := h2
    exact ⟨V.non, G', J.os, J.bare, J.base, J.hok, rfl, q⟩
  | brk =>
    obtain ⟨_, _, _, q⟩ := h2
    exact q.elim
  | cont =>
    obtain ⟨_, _, _, q⟩ := h2
    exact q.elim
/-- the law's own call, at the heap behind the top -/
theorem law_callG {mb : Str → Option Value} {a : Addr} {x : Str} {t : Shared} {vs : List Value} {ns : List Int}
    (kin : K.In t.heap) (hns : t.heap.Ns mainGlobals mg) (hbn : t.heap.Ns builtinsNs mb) (hbb : ∀ x : Str, x ≠ "__name__" → mb x = bootBuiltins x) (nol : t.heap.NoLimit) (hgn : t.gens = #[])
    (ha : t.heap.get? a = some { cls := .type "list", data := .seq vs.toArray }) (hi : IntsAre vs ns) (hz : ns.length ≤ sizeLine) (hro : Room k callerA)
    (F : ∀ base : Heap, K.In base → base.Ns mainGlobals mg → FnG P w K mg base CX k f fd [x] sp) (hbi : ∀ (s : Shared) (u : Value), BindsTo s fd ⟨[u], []⟩ [(x, u)])
    (hsp : ∀ G : Hp, Only G → SqL K G a (ns.map V.int) → sp [.ref a] G (fun v _ => v = .bl true) fun _ _ _ => False)
    (hCX : ∀ G e t', CX [] G t (fun _ _ _ => False) e t' → False) :
    codeAny (model P w) callerA (.call (.ref f) ⟨[.ref a], []⟩) (fun r t' => r = .ok (.ret (.bool true)) ∧ OldK t.heap t'.heap ∧ t'.os = t.os ∧ AllBare t'.gens) t := by
  have rv := vals_ints hi
  have hvl := hi.length
  have key : ∀ G : Hp, Only G → SqL K G a (ns.map V.int) → HOk P w G t.heap → (∀ b, G b ≠ none → b = a) → (G a ≠ none → K.lookup a = none) →
      codeAny (model P w) callerA (.call (.ref f) ⟨[.ref a], []⟩) (fun r t' => r = .ok (.ret (.bool true)) ∧ OldK t.heap t'.heap ∧ t'.os = t.os ∧ AllBare t'.gens) t := by
    intro G hO hS hok hA hK
    have noA : ∀ {b : Addr} {o : Obj} {es : Array DictEntry} {ep : Nat}, t.heap.get? b = some o → o.data = .dict es ep → G b = none := by
      intro b o es ep e d
      cases q : G b with
      | none => rfl
      | some u =>
        obtain rfl : b = a := hA b (by rw [q]; simp)
        rw [ha] at e
        cases e
        exact nomatch (show Data.seq vs.toArray _ = Data.dict es ep from d)
    have nsK : ∀ {b : Addr} {m : Str → Option Value}, t.heap.Ns b m → (hidT t.heap G).Ns b m := fun {b m} ⟨o, es, ep, e, d, r⟩ => ⟨o, es, ep, hidT_get e (noA e d), d, r⟩
    have kb : K.In (hidT t.heap G) := by
      intro b o e
      refine hidT_get (kin b o e) ?_
      cases q : G b with
      | none => rfl
      | some u =>
        obtain rfl : b = a := hA b (by rw [q]; simp)
        rw [hK (by rw [q]; simp)] at e
        cases e
    have md : Mod K mg (hidT t.heap G) := ⟨kb, nsK hns, ⟨mb, nsK hbn, hbb⟩, let ⟨mc, h1, h2⟩ := nol; ⟨mc, nsK h1, h2⟩⟩
    have e0 : Env0 P w K mg (hidT t.heap G) callerA [] t G := ⟨rfl, md, fun b o e => of_hidT e, Nat.le_of_eq (hidT_size _ _), trivial, fun b hb => absurd (show b ∈ ([] : List Addr) from hb) (by simp), hok, .of_eq hgn⟩
    refine codeAny_mono (F _ kb (nsK hns) callerA [] t G ⟨[.ref a], []⟩ [.ref a] [.ref a] _ _ rfl hro e0 (hbi t (.ref a)) (.cons rfl .nil) (hsp G hO hS)) fun r t' h => ?_
    cases r with
    | error e => exact (hCX G e t' h).elim
    | ok fl =>
      cases fl with
      | next => exact h.elim
      | brk => exact h.elim
      | cont => exact h.elim
      | ret u =>
        obtain ⟨v, G', os, bare, un, hok', r', q⟩ := h
        obtain rfl : v = .bl true := q
        obtain rfl : u = Value.bool true := r'
        refine ⟨rfl, OldK.of_keep fun b o e => ?_, os, bare⟩
        cases q : G b with
        | none => exact un.keep b o e q (fun z => absurd (show b ∈ ([] : List Addr) from z) (by simp)) (by simp)
        | some u =>
          rcases hO b with z | ⟨ob, xs, z⟩
          · rw [q] at z
            cases z
          · obtain ⟨e1, _⟩ := hok b _ z
            obtain ⟨e2, _⟩ := hok' b _ (un.frzs b ob _ z)
            rw [e] at e1
            cases e1
            exact e2
  cases hk : K.lookup a with
  | some o =>
    have e := kin a o hk
    rw [ha] at e
    cases e
    exact key (fun _ => none) (fun _ => .inl rfl) (.inr ⟨_, vs.toArray, _, hk, rfl, rfl, rfl, by rw [List.size_toArray, hvl]; exact hz, by simpa using rv⟩) (fun b u z => nomatch (show (none : Option HO) = some u from z)) (fun b z => absurd rfl z) fun z => absurd rfl z
  | none =>
    have at_a : ∀ {b : Addr} {u : HO}, (if b = a then some (HO.frz { cls := .type "list", data := .seq vs.toArray } (.lst (ns.map V.int))) else none) = some u → b = a ∧ u = HO.frz { cls := .type "list", data := .seq vs.toArray } (.lst (ns.map V.int)) := by
      intro b u z
      by_cases hb : b = a
      · rw [if_pos hb] at z
        cases z
        exact ⟨hb, rfl⟩
      · rw [if_neg hb] at z
        cases z
    refine key (fun b => if b = a then some (.frz { cls := .type "list", data := .seq vs.toArray } (.lst (ns.map V.int))) else none) (fun b => ?_) (.inl (.inr ⟨{ cls := .type "list", data := .seq vs.toArray }, if_pos rfl⟩)) (fun b u z => ?_) (fun b z => ?_) fun _ => hk
    · by_cases hb : b = a
      · exact .inr ⟨_, _, if_pos hb⟩
      · exact .inl (if_neg hb)
    · obtain ⟨rfl, rfl⟩ := at_a z
      exact ⟨ha, by rw [List.length_map]; exact hz, vs, _, rv, ha⟩
    · by_cases hb : b = a
      · exact hb
      · exact absurd (if_neg hb) z
end
theorem walk_G {l : PySem.W.OpenLaw} {n k : Nat} {q : Program} {loose : List Str} {XP : (Str → Option Value) → Heap → Prop} {YP : World → Heap → Prop} {d : DefRec} {CX : CXT} {x : Str}
    (hn : l.most = some n) (hn2 : n ≤ sizeLine) (hdf : d.params.defaults = []) (hro : Room k callerA)
    (F : ∀ (w : World) (mg : Str → Option Value) (fa : Addr) (h : Heap), YP w h → h.Ns mainGlobals mg → mg d.name = some (.ref fa) →
      ∃ (K : PySem.W.Frag) (fd : FuncData) (sp : Sp), K.In h ∧ (∀ (s : Shared) (u : Value), BindsTo s fd ⟨[u], []⟩ [(x, u)]) ∧
        (∀ (G : Hp) (a : Addr) (ns : List Int), ns.length ≤ n → Only G → SqL K G a (ns.map V.int) → sp [.ref a] G (fun v _ => v = .bl true) fun _ _ _ => False) ∧
        ∀ base : Heap, K.In base → base.Ns mainGlobals mg → FnG l.prog w K mg base CX k fa fd [x] sp)
    (hCX : ∀ (G : Hp) (s : Shared) (e : Value) (s' : Shared), CX [] G s (fun _ _ _ => False) e s' → False) : PySem.W.WalkO q loose XP YP l.row.toRowW d [] (fun f vs => PySem.call f vs) := by
  refine Att.attach_call hn hdf fun w s₀ t mg mb fa o pm cd doc a vs ns G Y ho hd hcd hmg hobj hints hlen hgn => ?_
  obtain ⟨K, fd, sp, kin, hbi, hsp, hF⟩ := F w mg fa _ Y G.T.g hmg
  exact law_callG kin G.T.g G.T.b G.T.builtins G.T.nolimit hgn hobj hints (Nat.le_trans hlen hn2) hro hF hbi (fun H hO hS => hsp H a ns hlen hO hS) fun H e t' => hCX H t e t'
/-! ### repr of data -/
def rRepr (K : PySem.W.Frag) : List V → Hp → VK → Prop := fun xs H Q => ∃ (a : Addr) (d : PyData), xs = [.ref a] ∧ Dt K H (.ref a) d ∧ Sh d 150 16777216 ∧ ∀ H', Same H H' → Q (.str d.shown) H'
theorem call_repr {X : Cx} {K : PySem.W.Frag} (hg : X.A.guards = some []) (hu : X.A.units + 200 < cLine) (hK : X.K = K := by rfl) : CallR X (.builtin "repr") (rRepr K) := by
  subst hK
  intro pins s σ H xs us Q I r h
  obtain ⟨a, d, rfl, hd, hs, q⟩ := h
  obtain ⟨u, rfl, ru⟩ := vals1 r
  cases ru
  obtain ⟨as, rd⟩ := Dp.reads I d _ _ hd.dp (show RelV (.ref a) (Value.ref a) from rfl)
  have hdep := hs.d
  exact repr_of_reads' rd hs.s (fun e => by rw [hs.n] at e; cases e) hg (by omega) (fun _ _ e => e) (fun h' u tk hk => ⟨.str d.shown, H, I.kept hk, ⟨u, rfl⟩, q H (Same.refl H)⟩) (by rw [sizeLine_eq]; exact hs.u)
end K83
namespace K83
open PySem PySem.Spec PyProof.Rows L2
open C8 (Cal pe_c CalAt)
section
variable {P : Program} {w : World} {K : PySem.W.Frag} {mg : Str → Option Value} {base : Heap}
/-! ### Ground(), that never raises -/
theorem fn_calm {f : Addr} {fd : FuncData} {ps : List Str} {k : Nat} {sp : Sp} (F : FnOk P w K mg base (L2.CX P w) k f fd ps sp) : FnOk P w K mg base C8.CX0 k f fd ps (fun vs H Q _ => sp vs H Q fun _ _ _ => False) :=
  ⟨fun vs H Q E h => F.len vs H Q _ h, fun A outer s H args us vs Q E hr he hb hv hs => codeAny_mono (F.run A outer s H args us vs Q _ hr he hb hv hs) fun r s' h => by
    cases r with
    | error e =>
      obtain ⟨_, _, _, _, _, _, _, _, _, _, _, _, h⟩ := h
      exact h
    | ok fl => cases fl <;> exact h⟩
def spG0 (K : PySem.W.Frag) : Sp := fun vs H Q _ => spGround K vs H Q fun _ _ _ => False
theorem k_GroundC (T : Tx w K mg) : C8.Mak P w K mg base 226 "Ground" (He.ga K "Ground") (spG0 K) [.non] := by
  obtain ⟨f, fd, ps, ds, M, F, hm, b, d⟩ := (k_Ground0 (P := P) (base := base) T).ex
  exact ⟨f, fd, ps, ds, M, fn_calm F, hm, b, d⟩
theorem pe_mk0d {X : Cx} {k j : Nat} {x : Str} {C : Addr} {sp : Sp} {dvs : List V} {p pos : Pos} (c : C8.Mak X.prog X.w X.K X.mg X.base k x C sp dvs) (hr : Room j X.A) (hk : k + 1 ≤ j) (hg : Gl X x) (hdb : (x == ("__debug__" : Str)) = false := by decide) : PE X (.Call (.Name x p) [] [] pos) (tMake C sp dvs C8.E0 tNil) := by
  obtain ⟨f, fd, ps, ds, M, F, hm, b, d⟩ := c.ex
  exact pe_make0 M F (hr.mono hk) hg hm b d C8.pass0 hdb
theorem at_ground {σ : L2.St} {H : Hp} {Q : VK} (q : ∀ x H2, Same H H2 → H x = none → IsG K H2 x [] → Q (.ref x) H2) : tMake (He.ga K "Ground") (spG0 K) [.non] C8.E0 tNil σ H Q := by
  refine fun x dx hx hdx hne => ⟨x, dx, .non, [], H, rfl, upd_same, hx, same_own (same_new hdx _) hx _, .inl ⟨rfl, rfl⟩, by simp, by simp, fun _ H2 e2 hG => ⟨rfl, q x H2 e2 hx hG⟩, ?_⟩
  exact trivial
/-! ### what is no text -/
inductive Odd (K : PySem.W.Frag) (H : Hp) (cut : List Wd) : V → Prop
  | non : Odd K H cut .non
  | zero : Odd K H cut (.int 0)
  | yes : Odd K H cut (.bl true)
  | lst {l : Addr} : Dt K H (.ref l) (.list (wsD cut)) → Odd K H cut (.ref l)
  | tup {l : Addr} : Dt K H (.ref l) (.tuple (wsD cut)) → Odd K H cut (.ref l)
  | dct {l : Addr} : H l = some (.dK []) → Odd K H cut (.ref l)
  | gr {l : Addr} : IsG K H l [] → Odd K H cut (.ref l)
theorem Odd.same {H H' : Hp} {cut : List Wd} {v : V} (h : Odd K H cut v) (e : Same H H') : Odd K H' cut v := by
  cases h with
  | non => exact .non
  | zero => exact .zero
  | yes => exact .yes
  | lst h => exact .lst (h.same e)
  | tup h => exact .tup (h.same e)
  | dct h => exact .dct (e _ _ h)
  | gr h => exact .gr (h.same e)
theorem tyx_gr (T : Tx w K mg) {H : Hp} {l : Addr} (h : IsG K H l []) : TyX K H (.ref l) (.ref (He.ga K "Ground")) := by
  obtain ⟨dx, l', kb, h1, h2⟩ := h
  have X := (fx_of T).ins
  exact .base (.ins h1 T.c_Ground X.ha X.hn X.htk X.hm)
theorem Odd.str (T : Tx w K mg) {H : Hp} {cut : List Wd} {v : V} (h : Odd K H cut v) : ∃ ty, TyX K H v ty ∧ PySem.W.kitOne K ty (.type "str") = some false := by
  have X := (fx_of T).ins
  cases h with
  | non => exact ⟨_, tyx_dt .non, kit_d K .none (by decide)⟩
  | zero => exact ⟨_, tyx_dt (.int 0), kit_d K (.int 0) (by decide)⟩
  | yes => exact ⟨_, tyx_dt (.bl true), kit_d K (.bool true) (by decide)⟩
  | lst h => exact ⟨_, tyx_dt h, kit_d K (.list (wsD cut)) (by decide)⟩
  | tup h => exact ⟨_, tyx_dt h, kit_d K (.tuple (wsD cut)) (by decide)⟩
  | dct h => exact ⟨_, .base (.dK h), kit_d K (.dict []) (by decide)⟩
  | gr h => exact ⟨_, tyx_gr T h, X.str⟩
/-- a list or none -/
theorem Odd.isL (T : Tx w K mg) {H : Hp} {cut : List Wd} {v : V} (h : Odd K H cut v) : (∃ l ty, v = .ref l ∧ Dt K H (.ref l) (.list (wsD cut)) ∧ TyX K H v ty ∧ PySem.W.kitOne K ty (.type "list") = some true) ∨ ∃ ty, TyX K H v ty ∧ PySem.W.kitOne K ty (.type "list") = some false := by
  have X := (fx_of T).ins
  cases h with
  | non => exact .inr ⟨_, tyx_dt .non, kit_d K .none (by decide)⟩
  | zero => exact .inr ⟨_, tyx_dt (.int 0), kit_d K (.int 0) (by decide)⟩
  | yes => exact .inr ⟨_, tyx_dt (.bl true), kit_d K (.bool true) (by decide)⟩
  | @lst l h => exact .inl ⟨l, _, rfl, h, tyx_dt h, kit_d K (.list (wsD cut)) (by decide)⟩
  | tup h => exact .inr ⟨_, tyx_dt h, kit_d K (.tuple (wsD cut)) (by decide)⟩
  | dct h => exact .inr ⟨_, .base (.dK h), kit_d K (.dict []) (by decide)⟩
  | gr h => exact .inr ⟨_, tyx_gr T h, X.lst⟩
theorem ne_self_ws {H : Hp} {v : V} {d : PyData} {Q : VK} (h : Dt K H v d) (hl : PyData.canLay0 d = true) (hd : d.depth ≤ 64) (q : Q (.bl false) H) : rNeAll K v v H Q := by
  have hs : SeqAt.shaped d = true := by
    unfold SeqAt.shaped
    rw [hl, decide_eq_true hd]
    rfl
  refine .inr (.inl ⟨d, d, h.dp, h.dp, hs, hs, ?_⟩)
  rw [SeqAt.eqv_refl d hl]
  exact q
theorem dep_ws (ws : List Wd) : PyData.depthAll (wsD ws) = 0 := by
  induction ws with
  | nil => simp only [wsD, List.map_nil, PyData.depthAll]
  | cons w ws ih =>
    simp only [wsD, List.map_cons, PyData.depthAll, wD, PyData.depth] at ih ⊢
    rw [ih]
    rfl
/-- odd != odd -/
theorem odd_ne {H : Hp} {cut : List Wd} {v : V} {Q : VK} (h : Odd K H cut v) (hc : ∀ u ∈ cut, Cp u) (q : ∀ H', Same H H' → Q (.bl false) H') : rNeAll K v v H Q := by
  have q0 := q H (Same.refl H)
  cases h with
  | non => exact .inl ⟨rfl, by simpa using q0⟩
  | zero => exact .inl ⟨rfl, by simpa using q0⟩
  | yes => exact .inl ⟨rfl, by simpa using q0⟩
  | lst h => exact ne_self_ws h (by simpa [PyData.canLay0] using lay_ws cut hc) (by simp only [PyData.depth, dep_ws]; decide) q0
  | tup h => exact ne_self_ws h (by simpa [PyData.canLay0] using lay_ws cut hc) (by simp only [PyData.depth, dep_ws]; decide) q0
  | @dct l h => exact .inr (.inr (.inl ⟨l, l, [], [], rfl, rfl, h, h, rfl, by simp, q0⟩))
  | @gr l h => exact .inr (.inr (.inr ⟨l, rfl, rfl, h, q⟩))
end
end K83
namespace K83
open PySem PySem.Spec PyProof.Rows L2
open C8 (Cal pe_c CalAt)
section
variable {P : Program} {w : World} {K : PySem.W.Frag} {mg : Str → Option Value} {base : Heap}
/-! ### the law -/
theorem tell_tup (g : Got) : ∃ ds, tell g = .tuple ds := by
  cases g with
  | line k => exact ⟨_, rfl⟩
  | rows rows =>
    show ∃ ds, tellC rows (chk rows) = .tuple ds
    cases chk rows <;> exact ⟨_, rfl⟩
theorem cb_repr {d : PyData} (h : ∃ ds, d = .tuple ds) (hs : Sh d 150 16777216) : CbD K (rRepr K) [d] (.str d.shown) := fun H vs h0 Q q => by
  obtain ⟨v, rfl, hv⟩ := h0.one_inv
  obtain ⟨ds, rfl⟩ := h
  have hv' := hv
  cases hv with
  | @tup a xs _ _ _ => exact ⟨a, _, rfl, hv', hs, fun H' e => q _ H' e (.str _)⟩
theorem es_caught {σ : L2.St} {H : Hp} {t : TE} {E : XK} {u : Wd} (h : Es K t σ H (wD u)) (hg : GoodT u) : Es K (tCall (spCaught K) [] E (tCons t tNil)) σ H (tell (readF u)) := fun H1 e1 Q q => h H1 e1 _ fun v H2 e2 hv => by
  cases hv
  exact ⟨_, rfl, .inl ⟨u, rfl, hg, fun v H3 e3 hv => q v H3 (e2.trans e3) hv⟩⟩
theorem od_neS {x : Str} : OpD K rNe (.str x) (.str x) (.bool false) := fun H a b ha hb Q q => by
  cases ha
  cases hb
  exact ⟨rfl, q _ _ (Same.refl H) (by simpa using Dt.bl false)⟩
theorem rd_forD {te : TE} {tb : TS} {k : Nat} {ds : List PyData} {D : L2.Ends} {σ : L2.St} {H : Hp} (h : Es K te σ H (.list ds)) (Pv : Nat → L2.St → Prop) (h0 : Pv 0 σ)
    (hs : ∀ j d x σ' H', ds[j]? = some d → Pv j σ' → Same H H' → Dt K H' x d → ∀ N : L2.St → Hp → Prop, (∀ σ2 H2, Pv (j + 1) σ2 → Same H' H2 → N σ2 H2) → tb { D with nx := N, ct := N, bk := D.nx } (σ'.set k (some x)) H')
    (hd : ∀ σ' H', Pv ds.length σ' → Same H H' → D.nx σ' H') : tFor (iList K te) (gName k) tb D σ H := h.at fun v H2 e2 hv => by
  cases hv with
  | @lst a xs _ hl hr =>
    have w : Walk (Itl K a) xs.length (fun H => SqL K H a xs) (YAt xs) := walk_list
    refine ⟨a, rfl, ⟨_, SqL.of hl⟩, for_it w (fun j σ' H' => Pv j σ' ∧ Same H2 H') ⟨h0, Same.refl _⟩ (fun j σ' H' _ g => SqL.of (g.2 _ _ hl)) (fun j x σ' H3 H4 hj g y => ?_) (fun σ' H' g => hd σ' H' (by rw [← hr.len]; exact g.1) (e2.trans g.2))⟩
    obtain ⟨g1, g2⟩ := g
    obtain ⟨rfl, y⟩ := y
    obtain ⟨d, hd1, hd2⟩ := hr.get y
    exact hs j d x σ' _ hd1 g1 (e2.trans g2) (hd2.same g2) _ fun σ2 H5 p e => ⟨p, g2.trans e⟩
def cutF : PyData → PyData
  | .str x => .str (S (x.cps.toList.take 60))
  | _ => .none
theorem cutF_ws (ts : List Wd) : ((wsD ts).filter (fun _ => true)).map cutF = wsD (ts.map fun t => t.take 60) := by
  rw [all_filter, wsD, wsD, List.map_map, List.map_map]
  rfl
def spLaw (K : PySem.W.Frag) : Sp := fun vs H Q _ => ∃ (a : Addr) (ns : List Int), vs = [.ref a] ∧ SqL K H a (ns.map V.int) ∧ ns.length ≤ 63 ∧ ∀ H', Q (.bl true) H'
theorem sql_same {H H' : Hp} {a : Addr} {xs : List V} (h : SqL K H a xs) (e : Same H H') : SqL K H' a xs := by
  rcases h with (h | ⟨o, h⟩) | h
  · exact .inl (.inl (e _ _ h))
  · exact .inl (.inr ⟨o, e _ _ h⟩)
  · exact .inr h
/-- texts that are written -/
def GoodW3 (t : Wd) : Prop := GoodTx t ∧ t.length ≤ 200000 ∧ Cp t
theorem lines_good {ls : List Wd} (h : ∀ l ∈ ls, IsLn l) (hl : ls.length ≤ 63) : GoodW3 (TL.joinL [10] ls) := by
  have h1 := text_len h
  have h2 : ls.length * 2469 ≤ 63 * 2469 := Nat.mul_le_mul_right _ hl
  refine ⟨text_good h (by omega), by omega, ?_⟩
  have : ∀ {ls : List Wd}, (∀ l ∈ ls, IsLn l) → ∀ c ∈ TL.joinL [10] ls, c < 0x110000 := by
    intro ls
    induction ls with
    | nil => intro _ c hc; cases hc
    | cons l ls ih =>
      intro h c hc
      have hl : ∀ c ∈ l, c < 0x110000 := fun c hc => by
        have := ((h l List.mem_cons_self).good.1.sg c hc).1
        omega
      cases ls with
      | nil => exact hl c hc
      | cons m ls =>
        have hc : c ∈ l ++ ([10] ++ TL.joinL [10] (m :: ls)) := hc
        rcases List.mem_append.mp hc with hc | hc
        · exact hl c hc
        · rcases List.mem_append.mp hc with hc | hc
          · rw [List.mem_singleton.mp hc]; decide
          · exact ih (fun x hx => h x (List.mem_cons_of_mem _ hx)) c hc
  exact this h
theorem sp_good (n : Nat) (h : n ≤ 100) : GoodW3 (sp n) := ⟨blank_good n, by show (List.replicate n 32).length ≤ _; rw [List.length_replicate]; omega, fun c hc => by rw [List.eq_of_mem_replicate hc]; decide⟩
theorem sl_big {w : Wd} (h : w.length ≤ 200000) (k : Nat) : SlD K C8.rSlX (wD w) none (some (k : Int)) (wD (w.take k)) := fun H x hx Q q => by
  cases hx
  exact ⟨_, rfl, by rw [S_length]; exact Nat.le_trans h (by decide), q _ _ (Same.refl H) (by rw [SX.slice_to (i := (k : Int)) (by omega)]; exact .str _)⟩
theorem room_200 {k : Nat} {A : Around} (r : Room k A) : A.units + 200 < cLine := by have := r.un; omega
theorem at_tk {σ : L2.St} {H : Hp} {b : Addr} {n i : Nat} {ti : TE} {m : Int} {E : XK} {Q : VK} (hs : σ[i]? = some (some (.ref b))) (hB : Bx H b n) (hn : n ≤ 1000000) (h0 : 0 < m) (h1 : m < 1000000) (hi : Es K ti σ H (.int m))
    (q : ∀ (r : Nat) H2, Mo b H H2 → Bx H2 b (n + 1) → (r : Int) < m → Q (.int (r : Nat)) H2) : tCall (spTake K) [] E (tCons (tVar i) (tCons ti tNil)) σ H Q := by
  refine ⟨_, hs, hi.at fun v H1 e1 hv => ?_⟩
  cases hv
  refine ⟨b, m, n, rfl, hB.same e1, hn, h0, h1, fun r H2 m2 B2 r0 r1 => ?_⟩
  obtain ⟨k, rfl⟩ : ∃ k : Nat, r = (k : Int) := ⟨r.toNat, by omega⟩
  exact q k H2 ((Mo.of e1).trans m2) B2 r1
theorem last_if {σ : L2.St} {H : Hp} {D : L2.Ends} {pf : Addr} {o : V} (h10 : σ[10]? = some (some (.ref pf))) (h9 : σ[9]? = some (some o)) (hf : SqT K H pf [wV wText, o]) (hne : ∀ Q' : VK, (∀ H2, Same H H2 → Q' (.bl false) H2) → rNeAll K o o H Q')
    (q : ∀ H2, Same H H2 → D.nx σ H2) : tIfS (tOr (tTest (tOp rNe (tOp (rIxT K) (tVar 10) (tC (.int 0))) (tC (.str "text")))) (tTest (tOp (rNeAll K) (tOp (rIxT K) (tVar 10) (tC (.int 1))) (tVar 9)))) (tRet (tC (.bl false))) tNext D σ H := by
  have ew : wV wText = V.str "text" := congrArg V.str (show S wText = ("text" : Str) by decide +kernel)
  refine at_if (at_or (at_tst (at_op (at_op ⟨_, h10, at_c ⟨pf, _, 0, _, rfl, rfl, hf, atI_0, at_c ?_⟩⟩))))
  rw [ew]
  refine ⟨rfl, _, rfl, ?_⟩
  rw [decide_eq_true rfl]
  refine iteF (at_tst (at_op (at_op ⟨_, h10, at_c ⟨pf, _, 1, _, rfl, rfl, hf, atI_nat (j := 1) rfl, ⟨_, h9, hne _ fun H2 e2 => ⟨false, rfl, iteF (q H2 e2)⟩⟩⟩⟩)))
def wMor : Wd := [109, 111, 114, 101]
theorem sql_app {H : Hp} {a l : Addr} {ns : List Int} {cut : List Wd} {o : HO} (h : SqL K H a (ns.map V.int)) (hl : H l = some (.lst (cut.map wV))) (hc : cut.length = 4) : SqL K (upd H l o) a (ns.map V.int) := by
  rcases h with (h | ⟨ob, h⟩) | h
  · refine .inl (.inl ?_)
    rw [upd_ne (fun z => ?_)]
    · exact h
    · rw [z, hl] at h
      have h := HO.lst.inj (Option.some.inj h)
      match cut, hc, ns, h with
      | _ :: _, _, [], h => cases h
      | _ :: _, _, _ :: _, h => exact nomatch (List.cons.inj h).1
  · refine .inl (.inr ⟨ob, ?_⟩)
    rw [upd_ne (fun z => ?_)]
    · exact h
    · rw [z, hl] at h
      cases h
  · exact .inr h
abbrev N_law : List Str := ["script", "k", "box", "good", "bad", "turn", "texts", "text", "cut", "odd", "found"]
abbrev P_law : List Str := ["script"]
theorem sc_law : FnScope N_law P_law (defScope s_law) := ⟨rfl, rfl, rfl, by decide +kernel, rfl, by decide +kernel, by decide +kernel⟩
theorem c_law (T : Tx w K mg) : ∃ fd, FnG P w K mg base C8.CX0 231 (He.ga K "law") fd P_law (spLaw K) ∧ FunD K "law" "law" (defArgs s_law) (defBody s_law) (defScope s_law) [] [] (He.ga K "law") fd := by
  obtain ⟨fd, F⟩ := T.d_law
  have c_law_take := c_law_take (P := P) (base := base) T
  have c_law_cell := c_law_cell (P := P) (base := base) T
  have c_law_box := c_law_box (P := P) (base := base) T
  have c_law_rows_words := c_law_rows_words (P := P) (base := base) T
  have c_law_otherwise := c_law_otherwise (P := P) (base := base) T
  have c_law_text := c_law_text (P := P) (base := base) T
  have c_law_caught := c_law_caught (P := P) (base := base) T
  have c_law_due := c_law_due (P := P) (base := base) T
  have k_GroundC := k_GroundC (P := P) (base := base) T
  refine ⟨fd, fnG_of F sc_law (fun vs H Q E h => by obtain ⟨_, _, rfl, _⟩ := h; rfl) (fun cdv A outer s H vs Q E hgu hr h => ⟨_, PSs.nox ((pss_cons (ps_for PassesOwn.never rfl (pi_range1 (by rfl) T.n_range (pa_cons (pe_callB (call_max2 rfl) rfl T.n_max b_max (pa_cons pe_int (pa_cons (pe_callB (call_min2 rfl) rfl T.n_min b_min (pa_cons pe_int (pa_cons (pe_callB (call_lenK (K := K)) rfl T.n_len PySem.boot_len (pa_cons (pv 0) pa_nil)) pa_nil))) pa_nil))) pa_nil)) (pg_name (i := 1) sc_law.nd rfl (Or.inl rfl))
      (pss_cons (ps_set (i := 2) sc_law.nd rfl (Or.inl rfl) (pe_c c_law_box hr (by decide) rfl (pa_cons (pe_c c_law_cell hr (by decide) rfl (pa_cons (pv 0) (pa_cons (pv 1) pa_nil))) pa_nil)))
    (pss_cons (ps_set (i := 3) sc_law.nd rfl (Or.inl rfl) (pe_c c_law_rows_words hr (by decide) rfl (pa_cons (pv 2) pa_nil)))
    (pss_cons (ps_set (i := 4) sc_law.nd rfl (Or.inl rfl) (pv 3))
    (pss_cons (ps_for PassesOwn.never rfl (pi_range1 (by rfl) T.n_range (pa_cons (pe_op op_add pe_int (pe_c c_law_take hr (by decide) rfl (pa_cons (pv 2) (pa_cons pe_int pa_nil)))) pa_nil)) (pg_name (i := 5) sc_law.nd rfl (Or.inl rfl))
      (pss_one (ps_set (i := 4) sc_law.nd rfl (Or.inl rfl) (pe_c c_law_otherwise hr (by decide) rfl (pa_cons (pv 2) (pa_cons (pv 4) pa_nil))))))
    (pss_cons (ps_set (i := 6) sc_law.nd rfl (Or.inl rfl) (pe_lst (pa_cons (pe_c c_law_text hr (by decide) rfl (pa_cons (pv 2) (pa_cons (pv 3) pa_nil))) (pa_cons (pe_c c_law_text hr (by decide) rfl (pa_cons (pv 2) (pa_cons (pv 4) pa_nil))) (pa_cons (pe_c c_law_text hr (by decide) rfl (pa_cons (pv 2) (pa_cons (pe_c c_law_otherwise hr (by decide) rfl (pa_cons (pv 2) (pa_cons (pv 3) pa_nil))) pa_nil))) pa_nil)))))
    (pss_cons (ps_expr (pe_bm PySem.F.plainAttrs_list PySem.F.slot_list_append PySem.F.type_list_append mt_append (pv 6) (pa_cons (pe_op op_mulS pe_str (pe_c c_law_take hr (by decide) rfl (pa_cons (pv 2) (pa_cons pe_int pa_nil)))) pa_nil)))
    (pss_cons (ps_for PassesOwn.never rfl (pi_listK (K := K) (pe_op op_cat (pv 6) (pe_slice (sl_listK (K := K)) (pv 6) po_none (po_some pe_int)))) (pg_name (i := 7) sc_law.nd rfl (Or.inl rfl))
      (pss_one (ps_if (pt_cmpR op_ne (pe_callB (call_repr (K := K) hgu (room_200 hr)) rfl T.n_repr b_repr (pa_cons (pe_c c_law_caught hr (by decide) rfl (pa_cons (pe_slice C8.sl_txt (pv 7) po_none (po_some pe_int)) pa_nil)) pa_nil)) (pe_callB (call_repr (K := K) hgu (room_200 hr)) rfl T.n_repr b_repr (pa_cons (pe_c c_law_due hr (by decide) rfl (pa_cons (pe_slice C8.sl_txt (pv 7) po_none (po_some pe_int)) pa_nil)) pa_nil)) (nomark _)) (pss_one (ps_ret pe_bl)) pss_nil)))
    (pss_cons (ps_setLc (i := 8) (own := [("text", 7)]) (g := (gName 7)) (tt := tYes) (by rfl) sc_law.nd rfl rfl (sw_true rfl rfl rfl (by decide +kernel)) (pi_listK (K := K) (pv 6)) (blkOk_by (N := N_law) (sc := defScope s_law) (by decide +kernel)) (fun _ _ _ _ _ => (pg_name (i := 7) sc_law.nd rfl (Or.inl rfl))) (fun _ _ _ _ _ => pts_nil) (fun _ _ _ _ _ => (pe_slice C8.sl_txt (pv 7) po_none (po_some pe_int))))
    (pss_cons (ps_set (i := 9) sc_law.nd rfl (Or.inl rfl) (pe_ix (ix_listK (K := K)) (pe_lst (pa_cons pe_non (pa_cons pe_int (pa_cons pe_bl (pa_cons (pv 8) (pa_cons (pe_callTy (call_tupK (K := K)) rfl T.n_tuple b_tuple (pa_cons (pv 8) pa_nil)) (pa_cons pe_dnewK (pa_cons (pe_mk0d k_GroundC hr (by decide) rfl) pa_nil)))))))) (pe_c c_law_take hr (by decide) rfl (pa_cons (pv 2) (pa_cons pe_int pa_nil))) (fun _ _ => rfl)))
    (pss_cons (ps_set (i := 10) sc_law.nd rfl (Or.inl rfl) (pe_c c_law_caught hr (by decide) rfl (pa_cons (pv 9) pa_nil)))
    (pss_cons (ps_if (pt_val (xIs (K := K) T.n_isinstance T.n_list b_list (pv 9))) (pss_one (ps_expr (pe_bm PySem.F.plainAttrs_list PySem.F.slot_list_append PySem.F.type_list_append mt_append (pv 9) (pa_cons pe_str pa_nil)))) pss_nil)
    (pss_one (ps_if (PW.pt (pw_or (pt_cmpR op_ne (pe_ix (ix_tupK (K := K)) (pv 10) pe_int (fun _ _ => rfl)) pe_str (nomark _)) (pw_or1 (pt_cmpR (op_neAll (K := K) T (hr.mono (by decide))) (pe_ix (ix_tupK (K := K)) (pv 10) pe_int (fun _ _ => rfl)) (pv 9) (nomark _))))) (pss_one (ps_ret pe_bl)) pss_nil))))))))))))))
    (pss_one (ps_ret pe_bl)))), ?_⟩), F⟩
  obtain ⟨a, ns, rfl, hS, hn, q⟩ := h
  have hN : ∃ N : Nat, N ≤ 4 ∧ (if (if (ns.length : Int) < 4 then (ns.length : Int) else 4) > 2 then (if (ns.length : Int) < 4 then (ns.length : Int) else 4) else 2) = (N : Int) := by
    by_cases h1 : (ns.length : Int) < 4
    · rw [if_pos h1]
      by_cases h2 : (ns.length : Int) > 2
      · exact ⟨ns.length, by omega, if_pos h2⟩
      · exact ⟨2, by omega, if_neg h2⟩
    · rw [if_neg h1]
      exact ⟨4, by omega, rfl⟩
  obtain ⟨N, hN4, hN⟩ := hN
  refine at_for (D := _) ?_
  refine ⟨_, rfl, _, _, rfl, .inl ⟨_, hS, rfl⟩, _, _, rfl, _, _, rfl, ?_⟩
  rw [List.length_map]
  refine rd_forR (K := K) (n := N) (es_int.eq (congrArg PyData.int hN)) (by omega) (fun i σ' H' => ∃ z1 z2 z3 z4 z5 z6 z7 z8 z9 z10 : Option V, σ' = [some (.ref a), z1, z2, z3, z4, z5, z6, z7, z8, z9, z10] ∧ SqL K H' a (ns.map V.int)) ?_ ?_ ?_
  · exact fun H1 e1 => ⟨_, _, _, _, _, _, _, _, _, _, rfl, sql_same hS e1⟩
  · rintro i σ' H0 hi ⟨z1, z2, z3, z4, z5, z6, z7, z8, z9, z10, rfl, hS0⟩
    refine at_asgN (at_call (at_cons (at_call ⟨_, rfl, _, rfl, a, ns, i, rfl, hS0, by omega, fun c H1 e1 => ?_⟩)))
    refine ⟨c, rfl, fun b H2 e2 hb hB => ?_⟩
    dsimp only
    have hS1 := sql_same hS0 e1
    refine at_asgN (at_call ⟨_, rfl, b, 0, rfl, hB, by omega, fun good v3 H3 hW hgl m3 B3 hv3 => ?_⟩)
    dsimp only
    have m13 : Mo b H1 H3 := (Mo.of e2).trans m3
    refine at_asgN ⟨_, rfl, ?_⟩
    dsimp only
    refine at_for (at_op (at_c (at_tk (K := K) (i := 2) rfl B3 (by omega) (by decide) (by decide) es_int fun r H4 m4 B4 hr4 => ⟨1, _, rfl, rfl, ?_⟩)))
    have hv4 := hv3.bx B3 m4 (noBox_rows good)
    have m14 := m13.trans m4
    refine rd_forR (K := K) (n := 1 + r) (es_int.eq (congrArg PyData.int (by omega))) (by omega) (fun j σ' H' => ∃ (y5 : Option V) (bad : List (List Wd)) (v4 : V), σ' = [some (.ref a), some (.int (i : Nat)), some (.ref b), some v3, some v4, y5, z6, z7, z8, z9, z10] ∧ WrC (199 + 2 * j) bad ∧ bad.length ≤ 60 + j ∧ Mo b H4 H' ∧ Bx H' b (0 + 60000 + 1 + 5 * j) ∧ Dt K H' v4 (.list (rwsD bad))) ?_ ?_ ?_
    · exact fun H5 e5 => ⟨_, good, v3, rfl, hW, by omega, Mo.of e5, (B4.same e5).mono (by omega), hv4.same e5⟩
    · rintro j σ' H5 hj ⟨y5, bad, v4, rfl, hWb, hbl, m5, B5, hv5⟩
      refine at_asgN (at_call ⟨_, rfl, _, rfl, b, v4, _, 199 + 2 * j, bad, rfl, B5, by omega, hv5, hWb, ⟨by omega, by omega⟩, by omega, fun bad2 v H6 hW2 hl2 m6 B6 hv6 => ?_⟩)
      exact ⟨_, bad2, v, rfl, hW2.le (by omega), by omega, m5.trans m6, B6.mono (by omega), hv6⟩
    rintro σ' H5 ⟨y5, bad, v4, rfl, hWb, hbl, m5, B5, hv5⟩
    dsimp only
    have hg5 := hv4.bx B4 m5 (noBox_rows good)
    have m15 := m14.trans m5
    refine at_asgN (at_lst (at_cons (at_call ⟨_, rfl, _, rfl, b, v3, _, good, rfl, B5, by omega, hg5, hW.le (by omega), by omega, fun l1 H6 hl1 hn1 m6 B6 => ?_⟩)))
    refine at_cons (at_call ⟨_, rfl, _, rfl, b, v4, _, bad, rfl, B6, by omega, hv5.bx B5 m6 (noBox_rows bad), hWb.le (by omega), by omega, fun l2 H7 hl2 hn2 m7 B7 => ?_⟩)
    have hg7 := (hg5.bx B5 m6 (noBox_rows good)).bx B6 m7 (noBox_rows good)
    refine at_cons (at_call ⟨_, rfl, at_cons (at_call ⟨_, rfl, _, rfl, b, v3, _, 199, good, rfl, B7, by omega, hg7, hW, ⟨by omega, by omega⟩, by omega, fun rows3 v8 H8 hW8 hl8 m8 B8 hv8 => ?_⟩)⟩)
    refine ⟨b, v8, _, rows3, rfl, B8, by omega, hv8, hW8.le (by omega), by omega, fun l3 H9 hl3 hn3 m9 B9 => ⟨by show 3 ≤ sizeLine; decide, fun p hp => ?_⟩⟩
    dsimp only
    have m19 := (((m15.trans m6).trans m7).trans m8).trans m9
    have hpb := B9.ne hp
    have hp1 := fresh_of m19 hp hpb
    refine at_exp ⟨_, rfl, .inl ⟨rfl, _, SqL.of upd_same⟩, at_cons (at_op (at_c (at_tk (K := K) (i := 2) rfl (B9.same (same_new hp _)) (by omega) (by decide) (by decide) es_int fun r10 H10 m10 B10 hr10 => ?_)))⟩
    refine ⟨r10, rfl, rfl, by omega, p, _, _, rfl, rfl, m10 _ _ hpb upd_same, by show 3 < sizeLine; decide, ?_⟩
    dsimp only
    have g1 := lines_good hl1 (by omega)
    have g2 := lines_good hl2 (by omega)
    have g3 := lines_good hl3 (by omega)
    have g4 := sp_good r10 (by omega)
    generalize TL.joinL [10] l1 = t1 at g1 ⊢
    generalize TL.joinL [10] l2 = t2 at g2 ⊢
    generalize TL.joinL [10] l3 = t3 at g3 ⊢
    generalize sp r10 = t4 at g4 ⊢
    have hall : ∀ t ∈ [t1, t2, t3, t4], GoodW3 t := by
      intro t ht
      simp only [List.mem_cons, List.not_mem_nil, or_false] at ht
      rcases ht with rfl | rfl | rfl | rfl
      · exact g1
      · exact g2
      · exact g3
      · exact g4
    have m111 := ((m19.trans (Mo.of (same_new hp _))).trans m10).own hp1 (.lst ([wV t1, wV t2, wV t3] ++ [V.str (S t4)]))
    have B11 := B10.mo hpb (Mo.upd (o := .lst ([wV t1, wV t2, wV t3] ++ [V.str (S t4)])))
    have hT : Dt K (upd H10 p (.lst ([wV t1, wV t2, wV t3] ++ [V.str (S t4)]))) (.ref p) (.list (wsD [t1, t2, t3, t4])) := .lst upd_same (dt_ws [t1, t2, t3, t4])
    generalize upd H10 p (.lst ([wV t1, wV t2, wV t3] ++ [V.str (S t4)])) = H11 at m111 B11 hT
    clear m10 B10 m9 B9 m8 B8 m7 B7 m6 B6 m5 B5 hg7 hg5 hv8 hW8 hv5 hWb hv4 m4 B4 g1 g2 g3 g4
    generalize hts : [t1, t2, t3, t4] = ts at hall hT
    have htl : ts.length = 4 := by rw [← hts]; rfl
    have hall2 : ∀ t ∈ ts ++ ts.take 1, GoodW3 t := fun t ht => (List.mem_append.mp ht).elim (hall t) fun h => hall t (List.mem_of_mem_take h)
    refine rd_forD (K := K) (ds := wsD (ts ++ ts.take 1)) ((es_op (od_cat (ds := wsD ts) (es := cutD (wsD ts) none (some 1)) (by subst hts; show 4 + 1 ≤ 100000; decide)) (es_var (i := 6) rfl hT) (es_sl sd_list (es_var (i := 6) rfl hT) eso_no eso_int)).eq (congrArg PyData.list (show wsD ts ++ cutD (wsD ts) none (some 1) = wsD (ts ++ ts.take 1) by subst hts; rfl))) (fun j σ' => ∃ y7 : Option V, σ' = [some (.ref a), some (.int (i : Nat)), some (.ref b), some v3, some v4, y5, some (.ref p), y7, z8, z9, z10]) ⟨_, rfl⟩ ?_ ?_
    · rintro j d x σ' H12 hd ⟨y7, rfl⟩ e12 hx N hN
      obtain ⟨t, ht, rfl⟩ := List.mem_map.mp (List.mem_of_getElem? hd)
      obtain ⟨ga, gb, gc⟩ := hall2 t ht
      have hg := goodTx_take ga (k := 3900) (by decide)
      refine rd_if (b := false) (est_op (es_op od_neS (es_b (cb_repr (tell_tup _) ((tell_sh hg).le (by decide) (by decide))) (esa_cons (es_caught (es_sl (sl_big gb 3900) (es_var (i := 7) rfl hx) eso_no eso_int) hg.g) esa_nil)) (es_b (cb_repr (tell_tup _) ((tell_sh hg).le (by decide) (by decide))) (esa_cons (es_c (esa_cons (es_sl (sl_big gb 3900) (es_var (i := 7) rfl hx) eso_no eso_int) esa_nil) ⟨_, rfl, hg, rfl⟩) esa_nil)))) (fun _ _ hb => nomatch hb) (fun H13 e13 _ => ?_)
      exact hN _ _ ⟨_, rfl⟩ e13
    rintro σ' H12 ⟨y7, rfl⟩ e12
    dsimp only
    have m112 := m111.trans (Mo.of e12)
    have B12 := B11.same e12
    refine rd_set (K := K) (d := .list (wsD (ts.map fun t => t.take 60))) ((es_lc (p := fun _ => true) (f := cutF) (esi_list (es_var (i := 6) rfl (hT.same e12))) (fun _ => rfl) (by rw [wsD_len, htl]; decide) (fun d hd _ => ?_) fun d hd v H13 e13 hv => ?_).eq (congrArg PyData.list (cutF_ws ts))) fun v8 H13 e13 hv8 => ?_
    · obtain ⟨t, _, rfl⟩ := List.mem_map.mp hd
      rfl
    · obtain ⟨t, ht, rfl⟩ := List.mem_map.mp hd
      exact ⟨est_yes, fun _ => (es_sl (sl_big (hall t ht).2.1 60) (es_var (i := 7) rfl hv) eso_no eso_int).eq rfl⟩
    dsimp only
    have hcut : ∀ u ∈ ts.map fun t => t.take 60, Cp u := fun u hu => by
      obtain ⟨t, ht, rfl⟩ := List.mem_map.mp hu
      exact fun c hc => (hall t ht).2.2 c (List.mem_of_mem_take hc)
    have hcl : (ts.map fun t => t.take 60).length = 4 := by rw [List.length_map, htl]
    generalize (ts.map fun t => t.take 60) = cut at hv8 hcut hcl
    have m113 := m112.trans (Mo.of e13)
    have B13 := B12.same e13
    refine at_asgN (at_op (at_lst (at_cons (at_c (at_cons (at_c (at_cons (at_c (at_cons ⟨_, rfl, at_cons ?_⟩)))))))))
    refine (es_b (K := K) cb_tupL (esa_cons (es_var (i := 8) rfl hv8) esa_nil)).at fun v9 H14 e14 hv9 => at_cons fun pd hpd => at_cons (at_ground fun x H15 e15 hx hG => ⟨by show 7 ≤ sizeLine; decide, fun pl hpl => ?_⟩)
    obtain ⟨l8, rfl⟩ : ∃ l, v8 = .ref l := by cases hv8; exact ⟨_, rfl⟩
    obtain ⟨l9, rfl⟩ : ∃ l, v9 = .ref l := by cases hv9; exact ⟨_, rfl⟩
    have ed := same_new hpd (.dK [])
    have el := same_new hpl (.lst [.non, .int 0, .bl true, .ref l8, .ref l9, .ref pd, .ref x])
    have e14L := (ed.trans e15).trans el
    have B15 := ((B13.same e14).same ed).same e15
    have BL := B15.same el
    have hplb := B15.ne hpl
    refine at_tk (K := K) (i := 2) rfl BL (by omega) (by decide) (by decide) es_int fun r16 H16 m16 B16 hr16 => ?_
    have hdb : pd ≠ b := (B13.same e14).ne hpd
    have d16 := m16 pd _ hdb (el _ _ (e15 _ _ upd_same))
    have hG16 : IsG K H16 x [] := by
      obtain ⟨dx, l, kb, h1, h2⟩ := hG
      have hxb : x ≠ b := fun z => by
        obtain ⟨x1, y1, w1, hb1, _⟩ := B15
        rw [z, hb1] at h1
        cases h1
      exact ⟨dx, l, kb, m16 _ _ hxb (el _ _ h1), (h2.same el).bx BL m16 (noBox_rows [])⟩
    have l16 := (hv8.same (e14.trans e14L)).bx BL m16 (noBox_ws cut)
    have t16 := (hv9.same e14L).bx BL m16 (by unfold noBox; exact noBoxs_ws cut)
    obtain ⟨o, hget, hodd⟩ : ∃ o, ([V.non, .int 0, .bl true, .ref l8, .ref l9, .ref pd, .ref x] : List V)[r16]? = some o ∧ Odd K H16 cut o := by
      rcases (by omega : r16 = 0 ∨ r16 = 1 ∨ r16 = 2 ∨ r16 = 3 ∨ r16 = 4 ∨ r16 = 5 ∨ r16 = 6) with h | h | h | h | h | h | h <;> subst h
      · exact ⟨_, rfl, .non⟩
      · exact ⟨_, rfl, .zero⟩
      · exact ⟨_, rfl, .yes⟩
      · exact ⟨_, rfl, .lst l16⟩
      · exact ⟨_, rfl, .tup t16⟩
      · exact ⟨_, rfl, .dct d16⟩
      · exact ⟨_, rfl, .gr hG16⟩
    refine ⟨pl, _, _, o, rfl, rfl, SqL.of (m16 _ _ hplb upd_same), atI_nat hget, ?_⟩
    dsimp only
    have m116 := (m113.trans (Mo.of (e14.trans e14L))).trans m16
    refine at_asgN (at_call ⟨_, rfl, o, rfl, .inr ⟨hodd.str T, fun pf H17 e17 hpf => ?_⟩⟩)
    dsimp only
    have hS17 := sql_same hS1 ((m116.same hb).trans e17)
    have o17 := hodd.same e17
    rcases o17.isL T with ⟨l, ty, rfl, hl, hty, hk⟩ | ⟨ty, hty, hk⟩
    · refine at_if ?_
      refine ⟨_, rfl, .ref l, ty, true, rfl, hty, hk, _, rfl, iteT ?_⟩
      cases hl with
      | @lst _ xs _ hla hlx =>
      have hxs := Dt.ws_eq hlx
      subst hxs
      refine at_exp ⟨_, rfl, .inl ⟨rfl, _, SqL.of hla⟩, at_cons (at_c ⟨l, _, _, rfl, rfl, hla, by rw [List.length_map, hcl]; decide, ?_⟩)⟩
      dsimp only
      refine last_if rfl rfl ((Mo.upd (b := l)).tk hla _ _ hpf) (fun Q' hq => ?_) fun H19 e19 => ⟨_, _, _, _, _, _, _, _, _, _, rfl, sql_same (sql_app hS17 hla hcl) e19⟩
      refine ne_self_ws (d := .list (wsD (cut ++ [wMor]))) (.lst upd_same ?_) ?_ ?_ (hq _ (Same.refl _))
      · rw [show cut.map wV ++ [V.str "more"] = (cut ++ [wMor]).map wV by rw [List.map_append]; exact congrArg (fun z => cut.map wV ++ [z]) (congrArg V.str (show ("more" : Str) = S wMor by decide +kernel))]
        exact dt_ws _
      · have : PyData.canLayAll0 (wsD (cut ++ [wMor])) = true := lay_ws _ fun u hu => by
          rcases List.mem_append.mp hu with h | h
          · exact hcut u h
          · rw [List.mem_singleton.mp h]
            intro c hc
            have : ∀ c ∈ wMor, c < 0x110000 := by decide
            exact this c hc
        simpa [PyData.canLay0] using this
      · simp only [PyData.depth, dep_ws]
        decide
    · refine at_if ?_
      refine ⟨_, rfl, o, ty, false, rfl, hty, hk, _, rfl, iteF ?_⟩
      dsimp only [tNext]
      exact last_if rfl rfl hpf (fun Q' hq => odd_ne o17 hcut hq) fun H19 e19 => ⟨_, _, _, _, _, _, _, _, _, _, rfl, sql_same hS17 e19⟩
  · rintro σ' H1 ⟨z1, z2, z3, z4, z5, z6, z7, z8, z9, z10, rfl, hS1⟩
    dsimp only
    refine at_ret ?_
    exact q _
end
end K83
namespace K83
open PySem PySem.Spec PyProof.Rows L2
theorem facts {P : Program} {w : World} {K : PySem.W.Frag} {h h2 : Heap} {mg : Str → Option Value} {f : Addr} (X : K.In h) (G : h.Ns mainGlobals mg) (hfa : mg ("law" : Str) = some (.ref f)) (c : He.SaysX fa fn ts [] ex w h2 K) :
    ∃ fd : FuncData, (∀ (s : Shared) (v : Value), BindsTo s fd ⟨[v], []⟩ [("script", v)]) ∧ ∀ base : Heap, K.In base → base.Ns mainGlobals mg → FnG P w K mg base C8.CX0 231 f fd ["script"] (spLaw K) := by
  have T := tx_of X G c
  have e := hfa.symm.trans T.g_law
  cases e
  obtain ⟨fd0, F0⟩ := T.d_law
  have b := FunD.bindsA (ps := ["script"]) F0 fun _ _ _ _ _ _ us hl => match us, hl with | [_], _ => rfl
  refine ⟨fd0, fun s v => b s [v] rfl, fun base _ _ => ?_⟩
  obtain ⟨fd, ok, F⟩ := c_law (P := P) (base := base) T
  obtain rfl : fd = fd0 := by
    obtain ⟨_, _, _, _, _, _, _, _, _, _, _, l1, _⟩ := F.ex
    obtain ⟨_, _, _, _, _, _, _, _, _, _, _, l2, _⟩ := F0.ex
    rw [l1] at l2
    cases l2
    rfl
  exact ok
end K83
open PySem PySem.W PySem.Calls PyProof.Rows
theorem PySem.Challenge.cw_paperwide_k83_whole_grounds_read_holds : PySem.Challenge.rw_paperwide_k83_whole_grounds_read.Holds := by
  w_on; o_law
  refine HandSHeadRun.head_any (r := OpenLaw.row PySem.Challenge.rw_paperwide_k83_whole_grounds_read) (q := view (OpenLaw.row PySem.Challenge.rw_paperwide_k83_whole_grounds_read).prog [K83.lawAt]) (H := K83.hk) (ob := K83.ob) (M := 12000) (loose := K83.loose) (d := HandSHeadRun.topDef (OpenLaw.row PySem.Challenge.rw_paperwide_k83_whole_grounds_read).prog K83.lawAt) (kwd := []) K83.ob_eq
    (by kernel_rfl) (fun s => by kernel_rfl) K83.run (by kernel_rfl) (by kernel_rfl) (by kernel_rfl) (by rfl) (by first | assumption | decide +kernel) (by decide +kernel) ⟨rfl, rfl, rfl, rfl, rfl, by decide +kernel⟩ ?hw ?hc
  case hw => w_witness2
  case hc =>
    refine K83.walk_G (l := PySem.Challenge.rw_paperwide_k83_whole_grounds_read) (n := 63) (k := 231) (x := "script") (CX := C8.CX0) rfl (by decide) (by kernel_rfl) ⟨rfl, by decide, by decide⟩ ?F (fun _ _ _ _ z => z)
    intro w mg fa h Y G hmg0
    obtain ⟨K, KX, c⟩ := Y
    have hmg : mg ("law" : PySem.Str) = some (.ref fa) := by
      have e : (HandSHeadRun.topDef (OpenLaw.row PySem.Challenge.rw_paperwide_k83_whole_grounds_read).prog K83.lawAt).name = ("law" : PySem.Str) := by kernel_rfl
      rw [← e]
      exact hmg0
    obtain ⟨fd, hb, hF⟩ := K83.facts (P := (PySem.Challenge.rw_paperwide_k83_whole_grounds_read).prog) (w := w) KX G hmg c
    exact ⟨K, fd, K83.spLaw K, KX, hb, fun H a ns hl _ hS => ⟨a, ns, rfl, hS, hl, fun _ => rfl⟩, hF⟩
