import PyProof.Rows.All
import Wide.All
import OpenK.AllK
import Wide.FinOn
import KE.KStateDown
import Lean
import HandS.Head0
import HandS.Head1
import HandS.Head2
import HandS.HeadEnd
import HandS.HeadHook1
import HandS.HeadHook2
import HandS.HeadHook3
import HandS.HeadHook4
import HandS.ClsMeth
import OpenK.KCls
import HandS.ForMost
import HandS.More
import HandS.Flow
import HandS.IsInst
import HandS.Wide
import HandS.CallLocal
import HandS.Iter
import HandS.Zip
import KE.GoesMore
import KE.GoesNew
import HandS.Comp
import HandS.DictTup
import KE.KDictPairs
import HandS.Defaults
import HandS.Style
import PySem.Challenge.RW_indexwise_k41_numbers_and_sides
set_option Elab.async false
set_option linter.all false
set_option maxRecDepth 100000
set_option maxHeartbeats 0
namespace Sx
open PySem
abbrev pw : Program := PySem.Challenge.pw_indexwise_k41_numbers_and_sides
abbrev top (i : Nat) : Stmt := pw.main.body.getD i (.Pass ⟨0, 0, 0, 0⟩)
end Sx
open PySem PySem.W PySem.Calls PyProof.Rows in
theorem Sx.early (h : (OpenLaw.row PySem.Challenge.rw_indexwise_k41_numbers_and_sides).wellSaid = true → (OpenLaw.row PySem.Challenge.rw_indexwise_k41_numbers_and_sides).Holds) : PySem.Challenge.rw_indexwise_k41_numbers_and_sides.Holds := by
  w_on; o_law
  exact h (by assumption)
namespace HeadB
open PySem PySem.W PySem.Calls PyProof.Rows
open Sx (top)
open L2 (defArgs defBody defScope inClass)
abbrev R : OpenRow := OpenLaw.row PySem.Challenge.rw_indexwise_k41_numbers_and_sides
abbrev qv : Program := view R.prog [150]
def nm0 : List PySem.Str := ["IndexwiseError", "NoProgram", "Twice", "NoBind", "NoName", "Unlike", "Parts", "TooGreat", "TooLong", "NoValue", "LETTERS", "MOST_LETTERS"]
def nm1 : List PySem.Str := ["is_whole", "is_name", "is_part", "is_length", "of_number", "of_name", "added", "often", "less", "put", "worth", "names_of"]
def nm2 : List PySem.Str := ["noughts", "parting", "exceeding", "MOST_SIZE", "MOST_NUMBER", "LARGE_kinds", "is_small", "parts_told", "is_kind", "within", "has_length", "kind_put"]
def nm3 : List PySem.Str := ["note_names", "names_in", "is_value", "held", "LARGE_rows", "MOST_ROWS", "MOST_NODES", "MOST_ABOVE", "MOST_ARGS", "RECKONED", "SHAPES", "is_number"]
def nm4 : List PySem.Str := ["is_function", "is_reckoned", "is_some", "LOOKS", "parts_of", "is_node", "is_expression", "is_param", "is_row", "are_unlike", "lengths_in", "does_bind"]
def nm5 : List PySem.Str := ["checked", "MOST_STEPS", "MOST_NUMBERS", "MOST_BOUND", "LARGE_runs", "reckoned", "Run", "coded_args", "coded", "with_value", "heaviness", "number_come"]
def nm6 : List PySem.Str := ["name_come", "length_come", "reckon_come", "if_come", "let_come", "call_come", "pair_come", "first_come", "second_come", "row_come", "none_come", "join_come"]
def nm7 : List PySem.Str := ["take_come", "drop_come", "zip_come", "turn_come", "get_come", "value_come", "up_come", "wide_come", "mirror_come", "fork_come", "when_come", "loop_come"]
def nm8 : List PySem.Str := ["fold_come", "WAYS", "PlainRun", "without", "kept_alike", "row_fault", "kind_fault", "bound", "WHOLE", "with_name", "Finder", "whole_kind"]
def nm9 : List PySem.Str := ["length_kind", "name_kind", "reckon_kind", "if_kind", "let_kind", "call_kind", "pair_kind", "first_kind", "second_kind", "row_kind", "none_kind", "join_kind"]
def nm10 : List PySem.Str := ["cut_kind", "zip_kind", "turn_kind", "get_kind", "place_kind", "value_kind", "up_kind", "wide_kind", "mirror_kind", "fork_kind", "when_kind", "loop_kind"]
def nm11 : List PySem.Str := ["fold_kind", "DEEDS", "Found", "_law_draws", "_law_next", "_law_place", "_law_reckoned", "_law_side_deed", "_law_deed"]
def names : List PySem.Str := nm0 ++ nm1 ++ nm2 ++ nm3 ++ nm4 ++ nm5 ++ nm6 ++ nm7 ++ nm8 ++ nm9 ++ nm10 ++ nm11
def fa0 : List He.Fa := [.free "isinstance", .free "len", .free "all", .free "range", .free "sorted", .free "sum", .free "enumerate", .free "zip", .free "max", .free "dict", .free "tuple", .free "list"]
def fa1 : List He.Fa := [.free "int", .free "str", .free "bool", .int "MOST_LETTERS" 8, .int "MOST_SIZE" 12, .int "MOST_NUMBER" 99, .int "LARGE_rows" 1000000000000, .int "LARGE_runs" 1000000000000, .int "MOST_ROWS" 12, .int "MOST_NODES" 40, .int "MOST_ABOVE" 7, .int "MOST_NUMBERS" 1000]
def fa2 : List He.Fa := [.str "LETTERS" "abcdefghijklmnopqrstuvwxyz", .glo "WHOLE", .glo "RECKONED", .glo "SHAPES", .glo "LOOKS", .glo "DEEDS", .glo "WAYS", .glo "is_whole", .glo "is_name", .glo "is_length", .glo "of_number", .glo "added"]
def fa3 : List He.Fa := [.glo "less", .glo "worth", .glo "names_of", .glo "noughts", .glo "exceeding", .glo "is_small", .glo "parts_told", .glo "is_kind", .glo "within", .glo "has_length", .glo "held", .glo "is_number"]
def fa4 : List He.Fa := [.glo "is_reckoned", .glo "parts_of", .glo "is_node", .glo "is_expression", .glo "is_row", .glo "checked", .glo "reckoned", .glo "coded", .glo "with_value", .glo "heaviness", .glo "number_come", .glo "name_come"]
def fa5 : List He.Fa := [.glo "length_come", .glo "reckon_come", .glo "if_come", .glo "let_come", .glo "value_come", .glo "up_come", .glo "wide_come", .glo "mirror_come", .glo "fork_come", .glo "when_come", .glo "with_name", .glo "whole_kind"]
def fa6 : List He.Fa := [.glo "length_kind", .glo "name_kind", .glo "reckon_kind", .glo "if_kind", .glo "let_kind", .glo "place_kind", .glo "value_kind", .glo "up_kind", .glo "wide_kind", .glo "mirror_kind", .glo "fork_kind", .glo "when_kind"]
def fa7 : List He.Fa := [.glo "_law_draws", .glo "_law_next", .glo "_law_place", .glo "_law_reckoned", .glo "_law_side_deed", .glo "_law_deed", .glo "law", .meth "Run" "__init__", .meth "PlainRun" "__init__", .meth "PlainRun" "come", .meth "PlainRun" "asked", .meth "Finder" "__init__"]
def fa8 : List He.Fa := [.meth "Finder" "kind_of", .meth "Finder" "own", .meth "Finder" "wanted", .meth "Finder" "within", .meth "Finder" "same", .meth "Found" "__init__", .meth "Found" "rows", .meth "Found" "kind_at", .meth "PlainRun" "begin", .meth "PlainRun" "weighed", .glo "Run", .glo "PlainRun"]
def fa9 : List He.Fa := [.glo "Finder", .glo "Found", .cls "PlainRun", .mkr "PlainRun", .noat "PlainRun" "steps", .noat "PlainRun" "found", .noat "PlainRun" "defs", .noat "PlainRun" "asks", .cls "Finder", .mkr "Finder", .noat "Finder" "finds", .noat "Finder" "row"]
def fa10 : List He.Fa := [.noat "Finder" "names", .noat "Finder" "count", .cls "Found", .mkr "Found", .noat "Found" "lines", .noat "Found" "defs", .noat "Found" "kinds", .noat "Found" "binds"]
def fa : List He.Fa := fa0 ++ fa1 ++ fa2 ++ fa3 ++ fa4 ++ fa5 ++ fa6 ++ fa7 ++ fa8 ++ fa9 ++ fa10
def fn0 : List He.DefD := [⟨("is_whole", none), "is_whole", "is_whole", defArgs (top 14), defBody (top 14), defScope (top 14), [], []⟩, ⟨("is_name", none), "is_name", "is_name", defArgs (top 15), defBody (top 15), defScope (top 15), [], []⟩, ⟨("is_length", none), "is_length", "is_length", defArgs (top 17), defBody (top 17), defScope (top 17), [], []⟩, ⟨("of_number", none), "of_number", "of_number", defArgs (top 18), defBody (top 18), defScope (top 18), [], []⟩, ⟨("added", none), "added", "added", defArgs (top 20), defBody (top 20), defScope (top 20), [], []⟩, ⟨("less", none), "less", "less", defArgs (top 22), defBody (top 22), defScope (top 22), [], []⟩, ⟨("worth", none), "worth", "worth", defArgs (top 24), defBody (top 24), defScope (top 24), [], []⟩, ⟨("names_of", none), "names_of", "names_of", defArgs (top 25), defBody (top 25), defScope (top 25), [], []⟩, ⟨("noughts", none), "noughts", "noughts", defArgs (top 26), defBody (top 26), defScope (top 26), [], []⟩, ⟨("exceeding", none), "exceeding", "exceeding", defArgs (top 28), defBody (top 28), defScope (top 28), [], []⟩, ⟨("is_small", none), "is_small", "is_small", defArgs (top 33), defBody (top 33), defScope (top 33), [], []⟩, ⟨("parts_told", none), "parts_told", "parts_told", defArgs (top 34), defBody (top 34), defScope (top 34), [], []⟩]
def fn1 : List He.DefD := [⟨("is_kind", none), "is_kind", "is_kind", defArgs (top 35), defBody (top 35), defScope (top 35), [], []⟩, ⟨("within", none), "within", "within", defArgs (top 36), defBody (top 36), defScope (top 36), [], []⟩, ⟨("has_length", none), "has_length", "has_length", defArgs (top 37), defBody (top 37), defScope (top 37), [], []⟩, ⟨("held", none), "held", "held", defArgs (top 42), defBody (top 42), defScope (top 42), [], []⟩, ⟨("is_number", none), "is_number", "is_number", defArgs (top 51), defBody (top 51), defScope (top 51), [], []⟩, ⟨("is_reckoned", none), "is_reckoned", "is_reckoned", defArgs (top 53), defBody (top 53), defScope (top 53), [], []⟩, ⟨("parts_of", none), "parts_of", "parts_of", defArgs (top 56), defBody (top 56), defScope (top 56), [], []⟩, ⟨("is_node", none), "is_node", "is_node", defArgs (top 57), defBody (top 57), defScope (top 57), [], []⟩, ⟨("is_expression", none), "is_expression", "is_expression", defArgs (top 58), defBody (top 58), defScope (top 58), [], []⟩, ⟨("is_row", none), "is_row", "is_row", defArgs (top 60), defBody (top 60), defScope (top 60), [], []⟩, ⟨("checked", none), "checked", "checked", defArgs (top 64), defBody (top 64), defScope (top 64), [], []⟩, ⟨("reckoned", none), "reckoned", "reckoned", defArgs (top 70), defBody (top 70), defScope (top 70), [], []⟩]
def fn2 : List He.DefD := [⟨("coded", none), "coded", "coded", defArgs (top 74), defBody (top 74), defScope (top 74), [], []⟩, ⟨("with_value", none), "with_value", "with_value", defArgs (top 75), defBody (top 75), defScope (top 75), [], []⟩, ⟨("heaviness", none), "heaviness", "heaviness", defArgs (top 76), defBody (top 76), defScope (top 76), [], []⟩, ⟨("number_come", none), "number_come", "number_come", defArgs (top 77), defBody (top 77), defScope (top 77), [], []⟩, ⟨("name_come", none), "name_come", "name_come", defArgs (top 78), defBody (top 78), defScope (top 78), [], []⟩, ⟨("length_come", none), "length_come", "length_come", defArgs (top 79), defBody (top 79), defScope (top 79), [], []⟩, ⟨("reckon_come", none), "reckon_come", "reckon_come", defArgs (top 80), defBody (top 80), defScope (top 80), [], []⟩, ⟨("if_come", none), "if_come", "if_come", defArgs (top 81), defBody (top 81), defScope (top 81), [], []⟩, ⟨("let_come", none), "let_come", "let_come", defArgs (top 82), defBody (top 82), defScope (top 82), [], []⟩, ⟨("value_come", none), "value_come", "value_come", defArgs (top 95), defBody (top 95), defScope (top 95), [], []⟩, ⟨("up_come", none), "up_come", "up_come", defArgs (top 96), defBody (top 96), defScope (top 96), [], []⟩, ⟨("wide_come", none), "wide_come", "wide_come", defArgs (top 97), defBody (top 97), defScope (top 97), [], []⟩]
def fn3 : List He.DefD := [⟨("mirror_come", none), "mirror_come", "mirror_come", defArgs (top 98), defBody (top 98), defScope (top 98), [], []⟩, ⟨("fork_come", none), "fork_come", "fork_come", defArgs (top 99), defBody (top 99), defScope (top 99), [], []⟩, ⟨("when_come", none), "when_come", "when_come", defArgs (top 100), defBody (top 100), defScope (top 100), [], []⟩, ⟨("with_name", none), "with_name", "with_name", defArgs (top 113), defBody (top 113), defScope (top 113), [], []⟩, ⟨("whole_kind", none), "whole_kind", "whole_kind", defArgs (top 115), defBody (top 115), defScope (top 115), [], []⟩, ⟨("length_kind", none), "length_kind", "length_kind", defArgs (top 116), defBody (top 116), defScope (top 116), [], []⟩, ⟨("name_kind", none), "name_kind", "name_kind", defArgs (top 117), defBody (top 117), defScope (top 117), [], []⟩, ⟨("reckon_kind", none), "reckon_kind", "reckon_kind", defArgs (top 118), defBody (top 118), defScope (top 118), [], []⟩, ⟨("if_kind", none), "if_kind", "if_kind", defArgs (top 119), defBody (top 119), defScope (top 119), [], []⟩, ⟨("let_kind", none), "let_kind", "let_kind", defArgs (top 120), defBody (top 120), defScope (top 120), [], []⟩, ⟨("place_kind", none), "place_kind", "place_kind", defArgs (top 132), defBody (top 132), defScope (top 132), [], []⟩, ⟨("value_kind", none), "value_kind", "value_kind", defArgs (top 133), defBody (top 133), defScope (top 133), [], []⟩]
def fn4 : List He.DefD := [⟨("up_kind", none), "up_kind", "up_kind", defArgs (top 134), defBody (top 134), defScope (top 134), [], []⟩, ⟨("wide_kind", none), "wide_kind", "wide_kind", defArgs (top 135), defBody (top 135), defScope (top 135), [], []⟩, ⟨("mirror_kind", none), "mirror_kind", "mirror_kind", defArgs (top 136), defBody (top 136), defScope (top 136), [], []⟩, ⟨("fork_kind", none), "fork_kind", "fork_kind", defArgs (top 137), defBody (top 137), defScope (top 137), [], []⟩, ⟨("when_kind", none), "when_kind", "when_kind", defArgs (top 138), defBody (top 138), defScope (top 138), [], []⟩, ⟨("_law_draws", none), "_law_draws", "_law_draws", defArgs (top 144), defBody (top 144), defScope (top 144), [], []⟩, ⟨("_law_next", none), "_law_next", "_law_next", defArgs (top 145), defBody (top 145), defScope (top 145), [], []⟩, ⟨("_law_place", none), "_law_place", "_law_place", defArgs (top 146), defBody (top 146), defScope (top 146), [], []⟩, ⟨("_law_reckoned", none), "_law_reckoned", "_law_reckoned", defArgs (top 147), defBody (top 147), defScope (top 147), [], []⟩, ⟨("_law_side_deed", none), "_law_side_deed", "_law_side_deed", defArgs (top 148), defBody (top 148), defScope (top 148), [], []⟩, ⟨("_law_deed", none), "_law_deed", "_law_deed", defArgs (top 149), defBody (top 149), defScope (top 149), [], []⟩, ⟨("law", none), "law", "law", defArgs (top 150), defBody (top 150), defScope (top 150), [], []⟩]
def fn5 : List He.DefD := [⟨("Run", some "__init__"), "__init__", "Run.__init__", defArgs (inClass (top 71) 0), defBody (inClass (top 71) 0), defScope (inClass (top 71) 0), [], []⟩, ⟨("PlainRun", some "__init__"), "__init__", "PlainRun.__init__", defArgs (inClass (top 104) 0), defBody (inClass (top 104) 0), defScope (inClass (top 104) 0), [], []⟩, ⟨("PlainRun", some "come"), "come", "PlainRun.come", defArgs (inClass (top 104) 1), defBody (inClass (top 104) 1), defScope (inClass (top 104) 1), [], []⟩, ⟨("PlainRun", some "asked"), "asked", "PlainRun.asked", defArgs (inClass (top 104) 2), defBody (inClass (top 104) 2), defScope (inClass (top 104) 2), [], []⟩, ⟨("Finder", some "__init__"), "__init__", "Finder.__init__", defArgs (inClass (top 114) 0), defBody (inClass (top 114) 0), defScope (inClass (top 114) 0), [], []⟩, ⟨("Finder", some "kind_of"), "kind_of", "Finder.kind_of", defArgs (inClass (top 114) 1), defBody (inClass (top 114) 1), defScope (inClass (top 114) 1), [], []⟩, ⟨("Finder", some "own"), "own", "Finder.own", defArgs (inClass (top 114) 2), defBody (inClass (top 114) 2), defScope (inClass (top 114) 2), [], []⟩, ⟨("Finder", some "wanted"), "wanted", "Finder.wanted", defArgs (inClass (top 114) 3), defBody (inClass (top 114) 3), defScope (inClass (top 114) 3), [], []⟩, ⟨("Finder", some "within"), "within", "Finder.within", defArgs (inClass (top 114) 4), defBody (inClass (top 114) 4), defScope (inClass (top 114) 4), [], []⟩, ⟨("Finder", some "same"), "same", "Finder.same", defArgs (inClass (top 114) 6), defBody (inClass (top 114) 6), defScope (inClass (top 114) 6), [], []⟩, ⟨("Found", some "__init__"), "__init__", "Found.__init__", defArgs (inClass (top 142) 0), defBody (inClass (top 142) 0), defScope (inClass (top 142) 0), [], []⟩, ⟨("Found", some "rows"), "rows", "Found.rows", defArgs (inClass (top 142) 1), defBody (inClass (top 142) 1), defScope (inClass (top 142) 1), [], []⟩]
def fn6 : List He.DefD := [⟨("Found", some "kind_at"), "kind_at", "Found.kind_at", defArgs (inClass (top 142) 3), defBody (inClass (top 142) 3), defScope (inClass (top 142) 3), [], []⟩, ⟨("PlainRun", some "begin"), "begin", "Run.begin", defArgs (inClass (top 71) 1), defBody (inClass (top 71) 1), defScope (inClass (top 71) 1), [], []⟩, ⟨("PlainRun", some "weighed"), "weighed", "Run.weighed", defArgs (inClass (top 71) 3), defBody (inClass (top 71) 3), defScope (inClass (top 71) 3), [], []⟩]
def fn : List He.DefD := fn0 ++ fn1 ++ fn2 ++ fn3 ++ fn4 ++ fn5 ++ fn6
def ks_SHAPES : List PySem.Str := ["number", "name", "length", "reckon", "if", "let", "call", "pair", "first", "second", "row", "none", "join", "take", "drop", "zip", "turn", "get", "place", "value", "up", "wide", "mirror", "fork", "when", "loop", "fold"]
def ks_LOOKS : List PySem.Str := ["n", "x", "l", "w", "f", "a", "k"]
def ks_DEEDS : List PySem.Str := ["number", "name", "length", "reckon", "if", "let", "call", "pair", "first", "second", "row", "none", "join", "take", "drop", "zip", "turn", "get", "place", "value", "up", "wide", "mirror", "fork", "when", "loop", "fold"]
def ks_WAYS : List PySem.Str := ["number", "name", "length", "reckon", "if", "let", "call", "pair", "first", "second", "row", "none", "join", "take", "drop", "zip", "turn", "get", "place", "value", "up", "wide", "mirror", "fork", "when", "loop", "fold"]
def vs_SHAPES : List (PySem.Str × He.Dv) := [("number", .str "n"), ("name", .str "x"), ("length", .str "l"), ("reckon", .str "wee"), ("if", .str "eee"), ("let", .str "xee"), ("place", .str "ll"), ("value", .str "e"), ("up", .str "le"), ("wide", .str "le"), ("mirror", .str "e"), ("fork", .str "lexee"), ("when", .str "elxee")]
def vs_LOOKS : List (PySem.Str × He.Dv) := [("n", .glo "is_number"), ("x", .glo "is_name"), ("l", .glo "is_small"), ("w", .glo "is_reckoned")]
def vs_DEEDS : List (PySem.Str × He.Dv) := [("number", .glo "whole_kind"), ("name", .glo "name_kind"), ("length", .glo "length_kind"), ("reckon", .glo "reckon_kind"), ("if", .glo "if_kind"), ("let", .glo "let_kind"), ("place", .glo "place_kind"), ("value", .glo "value_kind"), ("up", .glo "up_kind"), ("wide", .glo "wide_kind"), ("mirror", .glo "mirror_kind"), ("fork", .glo "fork_kind"), ("when", .glo "when_kind")]
def vs_WAYS : List (PySem.Str × He.Dv) := [("number", .glo "number_come"), ("name", .glo "name_come"), ("length", .glo "length_come"), ("reckon", .glo "reckon_come"), ("if", .glo "if_come"), ("let", .glo "let_come"), ("place", .glo "length_come"), ("value", .glo "value_come"), ("up", .glo "up_come"), ("wide", .glo "wide_come"), ("mirror", .glo "mirror_come"), ("fork", .glo "fork_come"), ("when", .glo "when_come")]
def ts : List He.Tab := [(fun K => He.ga K "SHAPES", ks_SHAPES), (fun K => He.ga K "LOOKS", ks_LOOKS), (fun K => He.ga K "DEEDS", ks_DEEDS), (fun K => He.ga K "WAYS", ks_WAYS)]
def runB (K : PySem.W.Frag) : Bool := PySem.W.readsIn K (He.ga K "Run") (.type "type") && (He.eqO (PySem.W.specialIn K (.ref (He.ga K "Run")) "__getattribute__") (some (some (.builtin "type.__getattribute__"))) && (match PySem.W.findCls K (.ref (He.ga K "Run")) (.type "type") "__init__" with
  | some (.val (.ref a)) => decide (a = He.ma K (He.ga K "Run") "__init__")
  | _ => false))
def exB (K : PySem.W.Frag) : Bool := He.tupB K "WHOLE" [.str "whole"] && (He.tupB K "RECKONED" [.str "plus", .str "minus", .str "times", .str "less", .str "same"] && (He.valsB K (He.ga K "SHAPES") vs_SHAPES && He.valsB K (He.ga K "LOOKS") vs_LOOKS && He.valsB K (He.ga K "DEEDS") vs_DEEDS && He.valsB K (He.ga K "WAYS") vs_WAYS &&  runB K))
def refsAt (g : Addr → Option Obj) (a : Addr) : List Addr := match g a with
  | some o => He.refsO o
  | none => []
def codeAt (g : Addr → Option Obj) (a : Addr) : List Addr := match g a with
  | some ⟨_, _, .func u, _⟩ => He.refV u.code
  | _ => []
def spaceAt (g : Addr → Option Obj) (a : Addr) : List Addr := match g a with
  | some ⟨_, _, .cls u, _⟩ => [u.ns]
  | _ => []
def list3 (g : Addr → Option Obj) (l n m : List Addr) : List Addr := mainGlobals :: cStatics :: (l ++ (l.flatMap (codeAt g) ++ (n ++ (m ++ m.flatMap (codeAt g)))))
def list2 (g : Addr → Option Obj) (l n : List Addr) : List Addr := list3 g l n (n.flatMap (refsAt g))
def list1 (g : Addr → Option Obj) (l : List Addr) : List Addr := list2 g l (l.flatMap (spaceAt g))
/-- the objects that are looked at: the module's, its defs' codes, its classes' defs and their codes -/
def KM (g : Addr → Option Obj) : PySem.W.Frag := He.frG g (list1 g (refsAt g mainGlobals))
def SaysM (w : World) (K : PySem.W.Frag) : Prop := He.obsT fa fn ts K = He.valT fn ts w ∧ exB K = true
abbrev AlM : Type := He.AlT × Bool
def obM (g : Addr → Option Obj) : AlM := (He.obsT fa fn ts (KM g), exB (KM g))
def hk : PySem.W.Hook where
  α := AlM
  val := fun w => (He.valT fn ts w, true)
  obs := fun s => obM s.heap.get?
  says := fun w h => ∃ K : PySem.W.Frag, SaysM w K ∧ K.In h
  of := fun _ _ q => ⟨_, ⟨congrArg (fun z : AlM => z.1) q, congrArg (fun z : AlM => z.2) q⟩, He.frG_in⟩
  keeps := fun _ _ _ ⟨K, c, hK⟩ k => ⟨K, c, hK.keeps k⟩
def ob (s : PySem.W.SharedT) : AlM := obM (HandSHeadRun.getT s)
theorem ob_eq (s : PySem.W.SharedT) : ob s = hk.obs s.abs := congrArg obM (funext fun a => HandSHeadRun.getT_eq s a)

noncomputable def topEnd (w : World) (os : OsState) : Option PySem.W.SharedT := HandSHeadRun.endF (HandSHeadRun.stepQ (HandSHeadRun.denQ HandSHeadRun.tabQ) R.prog w) 20000 R.prog w os
noncomputable def looks (w : World) (s : PySem.W.SharedT) := (HandSHeadRun.looksF R.prog (boot_heap w.params) s.abs, HandSHeadRun.seenQ qv names (importedModules R.prog.main.body) (fun s => xlAt qv [] s && recOk R.toRowW.records s) s.abs)
def SeesA (w : World) : Prop := ∀ os, (topEnd w os).map (looks w) = some (true, openGood qv names)
def SeesB (w : World) : Prop := ∀ os, (topEnd w os).map ob = some (hk.val w)
theorem aF (w : World) : SeesA (w.withFollow "special-get-raises" false) := by
  intro os
  kernel_rfl
theorem aT (w : World) : SeesA (w.withFollow "special-get-raises" true) := by
  intro os
  kernel_rfl
theorem bF (w : World) : SeesB (w.withFollow "special-get-raises" false) := by
  intro os
  kernel_rfl
theorem bT (w : World) : SeesB (w.withFollow "special-get-raises" true) := by
  intro os
  kernel_rfl
theorem run_of {w : World} (a : SeesA w) (b : SeesB w) : HandSHeadRun.RunEq R qv hk ob 20000 names w := by
  intro os
  have a1 := a os
  have b1 := b os
  show (topEnd w os).map (fun s => ((looks w s).1, (looks w s).2, ob s)) = _
  cases e : topEnd w os with
  | none => rw [e] at a1; cases a1
  | some s =>
    rw [e] at a1 b1
    have a2 : looks w s = (true, openGood qv names) := Option.some.inj a1
    have b2 : ob s = hk.val w := Option.some.inj b1
    show some ((looks w s).1, (looks w s).2, ob s) = _
    rw [a2, b2]
    rfl
theorem run (w : World) : HandSHeadRun.RunEq R qv hk ob 20000 names w := byRow2 "special-get-raises" (fun w => run_of (aF w) (bF w)) (fun w => run_of (aT w) (bT w)) w
end HeadB
open PySem PySem.W PySem.Calls PyProof.Rows in
theorem HeadB.held (said : HeadB.R.wellSaid = true) (walked : WalkO HeadB.qv HeadB.names (XL HeadB.qv []) HeadB.hk.says HeadB.R.toRowW (HandSHeadRun.topDef HeadB.R.prog 150) [] (fun f vs => PySem.call f vs)) : HeadB.R.Holds := by
  w_on
  refine HandSHeadRun.head_any (r := HeadB.R) (q := HeadB.qv) (H := HeadB.hk) (ob := HeadB.ob) (M := 20000) (loose := HeadB.names) (d := HandSHeadRun.topDef HeadB.R.prog 150) (kwd := []) HeadB.ob_eq
    (by kernel_rfl) (fun s => by kernel_rfl) HeadB.run (by kernel_rfl) (by kernel_rfl) (by kernel_rfl) (by rfl) said (by decide +kernel) ⟨rfl, rfl, rfl, rfl, rfl, by decide +kernel⟩ ?hw walked
  w_witness2
/-! Typed walks over HandS: the symbolic values, the stable heap, the memory. -/
namespace Sx
open PySem L2

/-- a symbolic value: data of any depth; just this value; a list that is not changed; a dict that is not changed -/
inductive Sy where
  | d (d : PyData)
  | v (x : V)
  | sl (ys : List Sy)
  | dk (n : Nat) (m : Key → Option PyData)

mutual
/-- data of any depth; an empty tuple is known to be a plain one -/
inductive Dq (K : PySem.W.Frag) (S : Hp) : V → PyData → Prop
  | non : Dq K S .non .none
  | bl (b : Bool) : Dq K S (.bl b) (.bool b)
  | int (i : Int) : Dq K S (.int i) (.int i)
  | str (x : Str) : Dq K S (.str x) (.str x)
  | lst {a : Addr} {xs : List V} {ds : List PyData} : SqL K S a xs → DqAll K S xs ds → Dq K S (.ref a) (.list ds)
  | tup {a : Addr} {xs : List V} {ds : List PyData} : SqT K S a xs → DqAll K S xs ds → ds ≠ [] → Dq K S (.ref a) (.tuple ds)
  | tup0 {a : Addr} {o : Obj} : S a = some (.frz o (.tup [])) → o.dict = none → Dq K S (.ref a) (.tuple [])
inductive DqAll (K : PySem.W.Frag) (S : Hp) : List V → List PyData → Prop
  | nil : DqAll K S [] []
  | cons {v : V} {vs : List V} {d : PyData} {ds : List PyData} : Dq K S v d → DqAll K S vs ds → DqAll K S (v :: vs) (d :: ds)
end
mutual
theorem dq_dp {K : PySem.W.Frag} {S : Hp} : ∀ (d : PyData) (v : V), Dq K S v d → Dp K S v d
  | .none, _, h => by cases h; exact .non
  | .bool b, _, h => by cases h; exact .bl b
  | .int i, _, h => by cases h; exact .int i
  | .str x, _, h => by cases h; exact .str x
  | .list ds, _, h => by
    cases h with
    | lst hs ha => exact .lst hs (dqa_dpa ds _ ha)
  | .tuple ds, _, h => by
    cases h with
    | tup hs ha _ => exact .tup hs (dqa_dpa ds _ ha)
    | tup0 hs _ => exact .tup (.inl (.inr ⟨_, hs⟩)) .nil
  | .dict _, _, h => by cases h
theorem dqa_dpa {K : PySem.W.Frag} {S : Hp} : ∀ (ds : List PyData) (vs : List V), DqAll K S vs ds → DpAll K S vs ds
  | [], _, h => by cases h; exact .nil
  | d :: ds, _, h => by
    cases h with
    | cons h1 h2 => exact .cons (dq_dp d _ h1) (dqa_dpa ds _ h2)
end
/-- a place of a dict -/
def DM (K : PySem.W.Frag) (S : Hp) : Option V → Option PyData → Prop
  | some v, some d => Dq K S v d
  | none, none => True
  | _, _ => False
mutual
inductive Is (K : PySem.W.Frag) (S : Hp) : V → Sy → Prop
  | d {x : V} {d : PyData} : Dq K S x d → Is K S x (.d d)
  | v {x : V} : Is K S x (.v x)
  | sl {a : Addr} {xs : List V} {ys : List Sy} : S a = some (.lst xs) → IsA K S xs ys → Is K S (.ref a) (.sl ys)
  | dk {a : Addr} {kvs : List (Key × V)} {n : Nat} {m : Key → Option PyData} : S a = some (.dK kvs) → kvs.length ≤ n → (∀ q, DM K S (valV kvs q) (m q)) → Is K S (.ref a) (.dk n m)
inductive IsA (K : PySem.W.Frag) (S : Hp) : List V → List Sy → Prop
  | nil : IsA K S [] []
  | cons {x : V} {xs : List V} {y : Sy} {ys : List Sy} : Is K S x y → IsA K S xs ys → IsA K S (x :: xs) (y :: ys)
end

theorem same_sqT {K : PySem.W.Frag} {H H' : Hp} {a : Addr} {xs : List V} (e : Same H H') (h : SqT K H a xs) : SqT K H' a xs := by
  rcases h with (h | ⟨o, h⟩) | h
  · exact .inl (.inl (e _ _ h))
  · exact .inl (.inr ⟨o, e _ _ h⟩)
  · exact .inr h
section
variable {K : PySem.W.Frag} {H H' : Hp} (e : Same H H')
include e
mutual
theorem dp_mono : ∀ (d : PyData) (v : V), Dq K H v d → Dq K H' v d
  | .none, _, h => by cases h; exact .non
  | .bool b, _, h => by cases h; exact .bl b
  | .int i, _, h => by cases h; exact .int i
  | .str x, _, h => by cases h; exact .str x
  | .list ds, _, h => by
    cases h with
    | lst hs ha => exact .lst (Same.seq e hs) (dpa_mono ds _ ha)
  | .tuple ds, _, h => by
    cases h with
    | tup hs ha hn => exact .tup (same_sqT e hs) (dpa_mono ds _ ha) hn
    | tup0 hs hn => exact .tup0 (e _ _ hs) hn
  | .dict _, _, h => by cases h
theorem dpa_mono : ∀ (ds : List PyData) (vs : List V), DqAll K H vs ds → DqAll K H' vs ds
  | [], _, h => by cases h; exact .nil
  | d :: ds, _, h => by
    cases h with
    | cons h1 h2 => exact .cons (dp_mono d _ h1) (dpa_mono ds _ h2)
end
theorem dm_mono {v : Option V} {d : Option PyData} (h : DM K H v d) : DM K H' v d := by
  cases v with
  | none => cases d with
    | none => exact True.intro
    | some d => exact h.elim
  | some v => cases d with
    | none => exact h.elim
    | some d => exact dp_mono e d v h
mutual
theorem is_mono : ∀ (y : Sy) (v : V), Is K H v y → Is K H' v y
  | .d d, v, h => by cases h with | d h => exact .d (dp_mono e d v h)
  | .v x, _, h => by cases h; exact .v
  | .sl ys, _, h => by cases h with | sl h1 h2 => exact .sl (e _ _ h1) (isa_mono ys _ h2)
  | .dk _ _, _, h => by cases h with | dk h1 h2 h3 => exact .dk (e _ _ h1) h2 fun q => dm_mono e (h3 q)
theorem isa_mono : ∀ (ys : List Sy) (vs : List V), IsA K H vs ys → IsA K H' vs ys
  | [], _, h => by cases h; exact .nil
  | y :: ys, _, h => by cases h with | cons h1 h2 => exact .cons (is_mono y _ h1) (isa_mono ys _ h2)
end
end

/-- what stands in the memory: it may change -/
inductive TO where
  | lst (ys : List Sy)
  | dK (n : Nat) (m : Key → Option PyData)
  | dT (n : Nat) (m : List Key → Option PyData)
  | ins (C dx : Addr) (fs : List (Str × Sy))
abbrev Mem := Addr → Option TO
def updM (M : Mem) (a : Addr) (t : TO) : Mem := fun b => if b = a then some t else M b
theorem updM_same {M : Mem} {a : Addr} {t : TO} : updM M a t a = some t := by unfold updM; rw [if_pos rfl]
theorem updM_ne {M : Mem} {a b : Addr} {t : TO} (h : b ≠ a) : updM M a t b = M b := by unfold updM; rw [if_neg h]
theorem updM_updM {M : Mem} {a : Addr} {t u : TO} : updM (updM M a t) a u = updM M a u := by
  funext b; unfold updM; split <;> rfl
theorem neM {M : Mem} {a b : Addr} {t : TO} (h : M a = some t) (h' : M b = none) : a ≠ b := by
  intro e; subst e; rw [h] at h'; cases h'
theorem neM2 {M : Mem} {a b : Addr} {t u : TO} (h : M a = some t) (h' : M b = some u) (d : t ≠ u) : a ≠ b := by
  intro e; subst e; rw [h] at h'; exact d (Option.some.inj h')

inductive TOk (K : PySem.W.Frag) (S : Hp) : HO → TO → Prop
  | lst {xs : List V} {ys : List Sy} : IsA K S xs ys → TOk K S (.lst xs) (.lst ys)
  | dK {kvs : List (Key × V)} {n : Nat} {m : Key → Option PyData} : kvs.length ≤ n → (∀ q, DM K S (valV kvs q) (m q)) → TOk K S (.dK kvs) (.dK n m)
  | dT {kvs : List (List Key × V)} {n : Nat} {m : List Key → Option PyData} : kvs.length ≤ n → (∀ q, DM K S (valV kvs q) (m q)) → TOk K S (.dT kvs) (.dT n m)
  | ins {C dx : Addr} {fs : List (Str × V)} {gs : List (Str × Sy)} : Paired (fun (p : Str × V) (q : Str × Sy) => p.1 = q.1 ∧ Is K S p.2 q.2) fs gs → TOk K S (.ins C dx fs) (.ins C dx gs)
theorem paired_mp {A B : Type} {F G : A → B → Prop} : ∀ {l1 : List A} {l2 : List B}, Paired F l1 l2 → (∀ a b, F a b → G a b) → Paired G l1 l2
  | _, _, .nil, _ => .nil
  | _, _, .cons r t, f => .cons (f _ _ r) (paired_mp t f)
theorem TOk.mono {K : PySem.W.Frag} {S S' : Hp} (e : Same S S') {o : HO} {t : TO} (h : TOk K S o t) : TOk K S' o t := by
  cases h with
  | lst h => exact .lst (isa_mono e _ _ h)
  | dK h1 h2 => exact .dK h1 fun q => dm_mono e (h2 q)
  | dT h1 h2 => exact .dT h1 fun q => dm_mono e (h2 q)
  | ins h => exact .ins (paired_mp h fun _ _ ⟨h1, h2⟩ => ⟨h1, is_mono e _ _ h2⟩)

/-- the heap H: a part S that stays, the memory M -/
structure Split (K : PySem.W.Frag) (S : Hp) (M : Mem) (H : Hp) : Prop where
  sub : Same S H
  mem : ∀ a t, M a = some t → S a = none ∧ ∃ o, H a = some o ∧ TOk K S o t
section
variable {K : PySem.W.Frag} {S H H' : Hp} {M : Mem} {a : Addr} {o : HO} {t : TO}
theorem Split.freeS (s : Split K S M H) (h : H a = none) : S a = none := s.sub.free h
theorem Split.freeM (s : Split K S M H) (h : H a = none) : M a = none := by
  cases q : M a with
  | none => rfl
  | some t =>
    obtain ⟨_, o, e, _⟩ := s.mem a t q
    rw [h] at e
    cases e
theorem same_new {p : Addr} (h : S p = none) : Same S (upd S p o) := fun b u q => by rw [upd_ne (ne_of_none q h)]; exact q
theorem same_upd (e : Same S H) {p : Addr} : Same (upd S p o) (upd H p o) := fun b u q => by
  by_cases hb : b = p
  · subst hb
    rw [upd_same] at q ⊢
    exact q
  · rw [upd_ne hb] at q ⊢
    exact e b u q
/-- a new object that stays -/
theorem Split.put (s : Split K S M H) {p : Addr} (h : H p = none) : Split K (upd S p o) M (upd H p o) := by
  refine ⟨same_upd s.sub, fun b t q => ?_⟩
  obtain ⟨h1, u, h2, h3⟩ := s.mem b t q
  have hb : b ≠ p := ne_of_none h2 h
  exact ⟨by rw [upd_ne hb]; exact h1, u, by rw [upd_ne hb]; exact h2, h3.mono (same_new (s.freeS h))⟩
/-- a new object of the memory -/
theorem Split.lay (s : Split K S M H) {p : Addr} (h : H p = none) (ht : TOk K S o t) : Split K S (updM M p t) (upd H p o) := by
  refine ⟨fun b u q => ?_, fun b u q => ?_⟩
  · rw [upd_ne (ne_of_none q (s.freeS h))]
    exact s.sub b u q
  · by_cases hb : b = p
    · subst hb
      rw [updM_same] at q
      cases q
      exact ⟨s.freeS h, o, upd_same, ht⟩
    · rw [updM_ne hb] at q
      obtain ⟨h1, v, h2, h3⟩ := s.mem b u q
      exact ⟨h1, v, by rw [upd_ne hb]; exact h2, h3⟩
/-- an object of the memory changed -/
theorem Split.set (s : Split K S M H) {p : Addr} {t0 : TO} (h : M p = some t0) (ht : TOk K S o t) : Split K S (updM M p t) (upd H p o) := by
  refine ⟨fun b u q => ?_, fun b u q => ?_⟩
  · have hb : b ≠ p := ne_of_none q (s.mem p t0 h).1
    rw [upd_ne hb]
    exact s.sub b u q
  · by_cases hb : b = p
    · subst hb
      rw [updM_same] at q
      cases q
      exact ⟨(s.mem b t0 h).1, o, upd_same, ht⟩
    · rw [updM_ne hb] at q
      obtain ⟨h1, v, h2, h3⟩ := s.mem b u q
      exact ⟨h1, v, by rw [upd_ne hb]; exact h2, h3⟩
/-- what only H tracks may grow -/
theorem Split.grow (s : Split K S M H) (e : Same H H') : Split K S M H' :=
  ⟨s.sub.trans e, fun a t q => let ⟨h1, o, h2, h3⟩ := s.mem a t q; ⟨h1, o, e _ _ h2, h3⟩⟩
/-- an object of the memory that stays from now on -/
theorem Split.freeze {p : Addr} (s : Split K S (updM M p t) H) (hM : M p = none) : ∃ o, TOk K S o t ∧ S p = none ∧ Same S (upd S p o) ∧ Split K (upd S p o) M H := by
  obtain ⟨h1, o, h2, h3⟩ := s.mem p t updM_same
  refine ⟨o, h3, h1, same_new h1, fun b u q => ?_, fun b u q => ?_⟩
  · by_cases hb : b = p
    · subst hb
      rw [upd_same] at q
      cases q
      exact h2
    · rw [upd_ne hb] at q
      exact s.sub b u q
  · have hb : b ≠ p := neM q hM
    obtain ⟨h4, v, h5, h6⟩ := s.mem b u (by rw [updM_ne hb]; exact q)
    exact ⟨by rw [upd_ne hb]; exact h4, v, h5, h6.mono (same_new h1)⟩
end

abbrev Ga := List (Option Sy)
/-- the slots have these values -/
structure Sat (K : PySem.W.Frag) (G : Ga) (σ : St) (S : Hp) : Prop where
  len : G.length = σ.length
  at_ : ∀ (i : Nat) (y : Sy), G[i]? = some (some y) → ∃ v, σ[i]? = some (some v) ∧ Is K S v y
section
variable {K : PySem.W.Frag} {G : Ga} {σ : St} {S S' : Hp} {i : Nat} {x : V} {y : Sy}
theorem Sat.mono (h : Sat K G σ S) (e : Same S S') : Sat K G σ S' := ⟨h.len, fun i y q => let ⟨v, h1, h2⟩ := h.at_ i y q; ⟨v, h1, is_mono e _ _ h2⟩⟩
theorem Sat.set (h : Sat K G σ S) (hx : Is K S x y) : Sat K (G.set i (some y)) (σ.set i (some x)) S := by
  refine ⟨by rw [List.length_set, List.length_set]; exact h.len, fun j z q => ?_⟩
  by_cases hj : i = j
  · subst hj
    by_cases hi : i < G.length
    · rw [List.getElem?_set_self hi] at q
      cases q
      exact ⟨x, by rw [List.getElem?_set_self (by rw [← h.len]; exact hi)], hx⟩
    · rw [List.getElem?_eq_none (by rw [List.length_set]; omega)] at q
      cases q
  · rw [List.getElem?_set_ne hj] at q ⊢
    exact h.at_ j z q
end

/-- what is wanted behind an expression -/
def Post (K : PySem.W.Frag) (S : Hp) (k : Sy → Mem → Prop) (Q : VK) : Prop := ∀ (v : V) (y : Sy) (M' : Mem) (S' H' : Hp), k y M' → Same S S' → Split K S' M' H' → Is K S' v y → Q v H'
def PostB (K : PySem.W.Frag) (S : Hp) (k : Bool → Mem → Prop) (Q : Bool → Hp → Prop) : Prop := ∀ (b : Bool) (M' : Mem) (S' H' : Hp), k b M' → Same S S' → Split K S' M' H' → Q b H'
def PostA (K : PySem.W.Frag) (S : Hp) (k : List Sy → Mem → Prop) (Q : List V → Hp → Prop) : Prop := ∀ (vs : List V) (ys : List Sy) (M' : Mem) (S' H' : Hp), k ys M' → Same S S' → Split K S' M' H' → IsA K S' vs ys → Q vs H'
theorem Post.later {K : PySem.W.Frag} {S S' : Hp} {k : Sy → Mem → Prop} {Q : VK} (h : Post K S k Q) (e : Same S S') : Post K S' k Q := fun v y M' S2 H' hk e2 sp is => h v y M' S2 H' hk (e.trans e2) sp is
theorem PostB.later {K : PySem.W.Frag} {S S' : Hp} {k : Bool → Mem → Prop} {Q : Bool → Hp → Prop} (h : PostB K S k Q) (e : Same S S') : PostB K S' k Q := fun b M' S2 H' hk e2 sp => h b M' S2 H' hk (e.trans e2) sp
theorem PostA.later {K : PySem.W.Frag} {S S' : Hp} {k : List Sy → Mem → Prop} {Q : List V → Hp → Prop} (h : PostA K S k Q) (e : Same S S') : PostA K S' k Q := fun v y M' S2 H' hk e2 sp is => h v y M' S2 H' hk (e.trans e2) sp is

/-! ### the meaning of a piece of syntax as a reading -/
def semE (X : Cx) (e : Expr) : TE := fun σ H Q => ∀ (pins : List (Addr × Obj)) (s : Shared), Inv X pins σ H s → wpAny (model X.prog X.w) X.A (eval e X.env) (EP X pins σ Q) X.xe s
def semT (X : Cx) (e : Expr) : TT := fun σ H Q => ∀ (pins : List (Addr × Obj)) (s : Shared), Inv X pins σ H s → wpAny (model X.prog X.w) X.A (isTrue e X.env (eval e X.env)) (TP X pins σ Q) X.xe s
def semW (X : Cx) (e : Expr) : TT := fun σ H Q => ∀ (whole : Sem Value) (pins : List (Addr × Obj)) (s : Shared), Inv X pins σ H s → wpAny (model X.prog X.w) X.A (isTrue e X.env whole) (TP X pins σ Q) X.xe s
def semA (X : Cx) (es : List Expr) : TA := fun σ H Q => ∀ (pos : Pos) (pins : List (Addr × Obj)) (s : Shared), Inv X pins σ H s → wpAny (model X.prog X.w) X.A (spliced (backTo pos (starEach es X.env))) (AP X pins σ Q) X.xe s
def semS (X : Cx) (st : List Stmt) : TS := fun D σ H => ∀ (pins : List (Addr × Obj)) (s : Shared), Inv X pins σ H s → wpAny (model X.prog X.w) X.A (execs st X.env) (SP X pins D) X.xe s
def semS1 (X : Cx) (st : Stmt) : TS := fun D σ H => ∀ (pins : List (Addr × Obj)) (s : Shared), Inv X pins σ H s → wpAny (model X.prog X.w) X.A (exec st X.env) (SP X pins D) X.xe s
def semR (X : Cx) (f : Value → Value → Sem Value) : R2 := fun x y H Q => ∀ (pins : List (Addr × Obj)) (s : Shared) (σ : St) (v u : Value), Inv X pins σ H s → RelV x v → RelV y u → wpAny (model X.prog X.w) X.A (f v u) (EP X pins σ Q) X.xe s
theorem sE {X : Cx} {e : Expr} : PE X e (semE X e) := ⟨fun pins s σ H Q I h => h pins s I⟩
theorem sT {X : Cx} {e : Expr} : PT X e (semT X e) := ⟨fun pins s σ H Q I h => h pins s I⟩
theorem sW {X : Cx} {e : Expr} : PW X e (semW X e) := ⟨fun w pins s σ H Q I h => h w pins s I⟩
theorem sA {X : Cx} {es : List Expr} : PA X es (semA X es) := ⟨fun pos pins s σ H Q I h => h pos pins s I⟩
theorem sS {X : Cx} {st : List Stmt} : PSs X st (semS X st) := ⟨fun pins s σ H D I h => h pins s I⟩
theorem sS1 {X : Cx} {st : Stmt} : PS X st (semS1 X st) := ⟨fun pins s σ H D I h => h pins s I⟩
theorem sR {X : Cx} {f : Value → Value → Sem Value} : OpR X f (semR X f) := fun pins s σ H x y v u Q I rx ry h => h pins s σ v u I rx ry

/-! ### the judgements -/
def EvK (X : Cx) (G : Ga) (M : Mem) (e : Expr) (k : Sy → Mem → Prop) : Prop := ∀ (σ : St) (S H : Hp) (Q : VK), Sat X.K G σ S → Split X.K S M H → Post X.K S k Q → semE X e σ H Q
def TeK (X : Cx) (G : Ga) (M : Mem) (e : Expr) (k : Bool → Mem → Prop) : Prop := ∀ (σ : St) (S H : Hp) (Q : Bool → Hp → Prop), Sat X.K G σ S → Split X.K S M H → PostB X.K S k Q → semT X e σ H Q
def TwK (X : Cx) (G : Ga) (M : Mem) (e : Expr) (k : Bool → Mem → Prop) : Prop := ∀ (σ : St) (S H : Hp) (Q : Bool → Hp → Prop), Sat X.K G σ S → Split X.K S M H → PostB X.K S k Q → semW X e σ H Q
def EaK (X : Cx) (G : Ga) (M : Mem) (es : List Expr) (k : List Sy → Mem → Prop) : Prop := ∀ (σ : St) (S H : Hp) (Q : List V → Hp → Prop), Sat X.K G σ S → Split X.K S M H → PostA X.K S k Q → semA X es σ H Q
def OpK (X : Cx) (f : Value → Value → Sem Value) (y1 y2 : Sy) (M : Mem) (k : Sy → Mem → Prop) : Prop := ∀ (S H : Hp) (x1 x2 : V) (Q : VK), Split X.K S M H → Is X.K S x1 y1 → Is X.K S x2 y2 → Post X.K S k Q → semR X f x1 x2 H Q
structure Tends where
  nx : Ga → Mem → Prop
  rt : Sy → Mem → Prop
  bk : Ga → Mem → Prop := fun _ _ => False
  ct : Ga → Mem → Prop := fun _ _ => False
structure PostS (K : PySem.W.Frag) (S : Hp) (D : Tends) (E : Ends) : Prop where
  nx : ∀ (G' : Ga) (σ' : St) (M' : Mem) (S' H' : Hp), D.nx G' M' → Same S S' → Sat K G' σ' S' → Split K S' M' H' → E.nx σ' H'
  rt : Post K S D.rt E.rt
  bk : ∀ (G' : Ga) (σ' : St) (M' : Mem) (S' H' : Hp), D.bk G' M' → Same S S' → Sat K G' σ' S' → Split K S' M' H' → E.bk σ' H'
  ct : ∀ (G' : Ga) (σ' : St) (M' : Mem) (S' H' : Hp), D.ct G' M' → Same S S' → Sat K G' σ' S' → Split K S' M' H' → E.ct σ' H'
theorem PostS.later {K : PySem.W.Frag} {S S' : Hp} {D : Tends} {E : Ends} (h : PostS K S D E) (e : Same S S') : PostS K S' D E :=
  ⟨fun G' σ' M' S2 H' hk e2 => h.nx G' σ' M' S2 H' hk (e.trans e2), h.rt.later e, fun G' σ' M' S2 H' hk e2 => h.bk G' σ' M' S2 H' hk (e.trans e2), fun G' σ' M' S2 H' hk e2 => h.ct G' σ' M' S2 H' hk (e.trans e2)⟩
def ExK (X : Cx) (G : Ga) (M : Mem) (st : List Stmt) (D : Tends) : Prop := ∀ (σ : St) (S H : Hp) (E : Ends), Sat X.K G σ S → Split X.K S M H → PostS X.K S D E → semS X st E σ H
end Sx
namespace Sx
open PySem L2

/-- where a body stands -/
structure Cxi (X : Cx) (P : Program) (w : World) (K : PySem.W.Frag) (mg : Str → Option Value) (base : Heap) (n : Nat) : Prop where
  hP : X.prog = P
  hw : X.w = w
  hK : X.K = K
  hm : X.mg = mg
  hb : X.base = base
  nd : X.N.Nodup
  calm : X.calm = true
  room : Room n X.A
  own : PassesOwn (model X.prog X.w) X.A X.env X.xe
/-- a name of the def's own -/
structure Slot (X : Cx) (i : Nat) (x : Str) : Prop where
  n : X.N[i]? = some x
  vis : Vis X.env.scope x
  loc : Loc X.env.scope x
  fn : X.fn x = true ∨ X.env.scope.names.lookup x = some .local
  dbg : (x == ("__debug__" : Str)) = false
  cd : (x == ("__classdict__" : Str)) = false
/-- a module's name, what it stands for -/
structure Gvl (K : PySem.W.Frag) (mg : Str → Option Value) (x : Str) (y : Sy) : Prop where
  ex : ∃ u v, mg x = some u ∧ RelV v u ∧ ∀ S, Is K S v y
  dbg : (x == ("__debug__" : Str)) = false

/-- what a def does: from its arguments and the memory -/
abbrev Tr := List Sy → Mem → (Sy → Mem → Prop) → Prop
def spT (K : PySem.W.Frag) (T : Tr) : Sp := fun vs H Q _ => ∃ (ys : List Sy) (S : Hp) (M : Mem) (k : Sy → Mem → Prop), T ys M k ∧ Split K S M H ∧ IsA K S vs ys ∧ Post K S k Q
/-- a def of the top, by its name -/
structure Dfn (P : Program) (w : World) (K : PySem.W.Frag) (mg : Str → Option Value) (base : Heap) (x : Str) (k : Nat) (T : Tr) : Prop where
  ex : ∃ (f : Addr) (fd : FuncData) (ps : List Str), FnOk P w K mg base CX0 k f fd ps (spT K T) ∧ mg x = some (.ref f) ∧ PySem.W.keepIn K (.ref f) = true ∧ Binds K fd ps []
  dbg : (x == ("__debug__" : Str)) = false
/-- a def at an address -/
structure Fat (P : Program) (w : World) (K : PySem.W.Frag) (mg : Str → Option Value) (base : Heap) (f : Addr) (k : Nat) (T : Tr) : Prop where
  ex : ∃ (fd : FuncData) (ps : List Str), FnOk P w K mg base CX0 k f fd ps (spT K T) ∧ PySem.W.keepIn K (.ref f) = true ∧ Binds K fd ps []
/-- a method of the class at C -/
structure Mfn (P : Program) (w : World) (K : PySem.W.Frag) (mg : Str → Option Value) (base : Heap) (C : Addr) (m : Str) (k : Nat) (T : Tr) : Prop where
  ex : ∃ (f : Addr) (fd : FuncData) (ps : List Str), FnOk P w K mg base CX0 k f fd ps (spT K T) ∧ Meth K C m f ∧ Binds K fd ps []
  cls : Cls K C

theorem isa_append {K : PySem.W.Frag} {S : Hp} : ∀ {xs xs' : List V} {ys ys' : List Sy}, IsA K S xs ys → IsA K S xs' ys' → IsA K S (xs ++ xs') (ys ++ ys')
  | _, _, _, _, .nil, h => h
  | _, _, _, _, .cons h1 h2, h => .cons h1 (isa_append h2 h)
theorem isa_len {K : PySem.W.Frag} {S : Hp} : ∀ {xs : List V} {ys : List Sy}, IsA K S xs ys → xs.length = ys.length
  | _, _, .nil => rfl
  | _, _, .cons _ h => by rw [List.length_cons, List.length_cons, isa_len h]
theorem isa_get {K : PySem.W.Frag} {S : Hp} : ∀ {xs : List V} {ys : List Sy} {i : Nat} {y : Sy}, IsA K S xs ys → ys[i]? = some y → ∃ x, xs[i]? = some x ∧ Is K S x y
  | _, _, _, _, .nil, e => by simp at e
  | _, _, 0, _, .cons h1 _, e => by simp at e; subst e; exact ⟨_, rfl, h1⟩
  | _, _, i + 1, y, .cons _ h2, e => by
    obtain ⟨x, h3, h4⟩ := isa_get (i := i) (y := y) h2 (by simpa using e)
    exact ⟨x, by simpa using h3, h4⟩
theorem isa_get' {K : PySem.W.Frag} {S : Hp} : ∀ {xs : List V} {ys : List Sy} {i : Nat} {x : V}, IsA K S xs ys → xs[i]? = some x → ∃ y, ys[i]? = some y ∧ Is K S x y
  | _, _, _, _, .nil, e => by simp at e
  | _, _, 0, _, .cons h1 _, e => by simp at e; subst e; exact ⟨_, rfl, h1⟩
  | _, _, i + 1, x, .cons _ h2, e => by
    obtain ⟨y, h3, h4⟩ := isa_get' (i := i) (x := x) h2 (by simpa using e)
    exact ⟨y, by simpa using h3, h4⟩
theorem dpa_get {K : PySem.W.Frag} {S : Hp} : ∀ {xs : List V} {ds : List PyData} {i : Nat} {d : PyData}, DqAll K S xs ds → ds[i]? = some d → ∃ x, xs[i]? = some x ∧ Dq K S x d
  | _, _, _, _, .nil, e => by simp at e
  | _, _, 0, _, .cons h1 _, e => by simp at e; subst e; exact ⟨_, rfl, h1⟩
  | _, _, i + 1, d, .cons _ h2, e => by
    obtain ⟨x, h3, h4⟩ := dpa_get (i := i) (d := d) h2 (by simpa using e)
    exact ⟨x, by simpa using h3, h4⟩
theorem dpa_len {K : PySem.W.Frag} {S : Hp} : ∀ {xs : List V} {ds : List PyData}, DqAll K S xs ds → xs.length = ds.length
  | _, _, .nil => rfl
  | _, _, .cons _ h => by rw [List.length_cons, List.length_cons, dpa_len h]
theorem isa_dpa {K : PySem.W.Frag} {S : Hp} : ∀ {ds : List PyData} {xs : List V}, IsA K S xs (ds.map Sy.d) → DqAll K S xs ds
  | [], _, h => by
    have h' : IsA K S _ [] := h
    cases h'
    exact .nil
  | d :: ds, _, h => by
    have h' : IsA K S _ (Sy.d d :: ds.map Sy.d) := h
    cases h' with
    | cons h1 h2 =>
      cases h1 with
      | d h1 => exact .cons h1 (isa_dpa h2)
theorem dpa_isa {K : PySem.W.Frag} {S : Hp} : ∀ {ds : List PyData} {xs : List V}, DqAll K S xs ds → IsA K S xs (ds.map Sy.d)
  | [], _, h => by
    cases h
    exact .nil
  | d :: ds, _, h => by
    cases h with
    | cons h1 h2 => exact .cons (.d h1) (dpa_isa h2)

section
variable {X : Cx} {P : Program} {w : World} {K : PySem.W.Frag} {mg : Str → Option Value} {base : Heap} {n j : Nat} {G : Ga} {M : Mem} {k : Sy → Mem → Prop} {kb : Bool → Mem → Prop} {ka : List Sy → Mem → Prop}
variable {a b c e o : Expr} {es rest : List Expr} {x m : Str} {p p2 p3 pos apos cpos : Pos} {i : Nat} {y z : Sy} {T : Tr} {f : Addr}

/-! ### from a reading -/
theorem ev_of {t : TE} (h : PE X e t) (q : ∀ (σ : St) (S H : Hp) (Q : VK), Sat X.K G σ S → Split X.K S M H → Post X.K S k Q → t σ H Q) : EvK X G M e k := fun σ S H Q sa sp po pins s I => h.run pins s σ H Q I (q σ S H Q sa sp po)
theorem te_of {t : TT} (h : PT X e t) (q : ∀ (σ : St) (S H : Hp) (Q : Bool → Hp → Prop), Sat X.K G σ S → Split X.K S M H → PostB X.K S kb Q → t σ H Q) : TeK X G M e kb := fun σ S H Q sa sp po pins s I => h.run pins s σ H Q I (q σ S H Q sa sp po)
theorem tw_of {t : TT} (h : PW X e t) (q : ∀ (σ : St) (S H : Hp) (Q : Bool → Hp → Prop), Sat X.K G σ S → Split X.K S M H → PostB X.K S kb Q → t σ H Q) : TwK X G M e kb := fun σ S H Q sa sp po w pins s I => h.run w pins s σ H Q I (q σ S H Q sa sp po)
theorem ea_of {t : TA} (h : PA X es t) (q : ∀ (σ : St) (S H : Hp) (Q : List V → Hp → Prop), Sat X.K G σ S → Split X.K S M H → PostA X.K S ka Q → t σ H Q) : EaK X G M es ka := fun σ S H Q sa sp po pos pins s I => h.run pos pins s σ H Q I (q σ S H Q sa sp po)
/-- as a part of a reading -/
theorem EvK.go (h : EvK X G M e k) {σ : St} {S H : Hp} {Q : VK} (sa : Sat X.K G σ S) (sp : Split X.K S M H) (q : ∀ (v : V) (y : Sy) (M' : Mem) (S' H' : Hp), k y M' → Same S S' → Sat X.K G σ S' → Split X.K S' M' H' → Is X.K S' v y → Q v H') : semE X e σ H Q :=
  h σ S H Q sa sp fun v y M' S' H' hk es sp' is => q v y M' S' H' hk es (sa.mono es) sp' is
theorem TeK.go (h : TeK X G M e kb) {σ : St} {S H : Hp} {Q : Bool → Hp → Prop} (sa : Sat X.K G σ S) (sp : Split X.K S M H) (q : ∀ (b : Bool) (M' : Mem) (S' H' : Hp), kb b M' → Same S S' → Sat X.K G σ S' → Split X.K S' M' H' → Q b H') : semT X e σ H Q :=
  h σ S H Q sa sp fun v M' S' H' hk es sp' => q v M' S' H' hk es (sa.mono es) sp'
theorem TwK.go (h : TwK X G M e kb) {σ : St} {S H : Hp} {Q : Bool → Hp → Prop} (sa : Sat X.K G σ S) (sp : Split X.K S M H) (q : ∀ (b : Bool) (M' : Mem) (S' H' : Hp), kb b M' → Same S S' → Sat X.K G σ S' → Split X.K S' M' H' → Q b H') : semW X e σ H Q :=
  h σ S H Q sa sp fun v M' S' H' hk es sp' => q v M' S' H' hk es (sa.mono es) sp'
theorem EaK.go (h : EaK X G M es ka) {σ : St} {S H : Hp} {Q : List V → Hp → Prop} (sa : Sat X.K G σ S) (sp : Split X.K S M H) (q : ∀ (vs : List V) (ys : List Sy) (M' : Mem) (S' H' : Hp), ka ys M' → Same S S' → Sat X.K G σ S' → Split X.K S' M' H' → IsA X.K S' vs ys → Q vs H') : semA X es σ H Q :=
  h σ S H Q sa sp fun v y M' S' H' hk es sp' is => q v y M' S' H' hk es (sa.mono es) sp' is

/-! ### names, constants -/
theorem ev_name (s : Slot X i x) (h : G[i]? = some (some y)) (q : k y M) : EvK X G M (.Name x p) k :=
  ev_of (pe_var s.n s.vis s.dbg s.cd) fun σ S H Q sa sp po => let ⟨v, h1, h2⟩ := sa.at_ i y h; ⟨v, h1, po v y M S H q (Same.refl S) sp h2⟩
theorem ev_glob (C : Cxi X P w K mg base n) (g : Gvl K mg x y) (hg : Gl X x) (q : k y M) : EvK X G M (.Name x p) k := by
  obtain ⟨rfl, rfl, rfl, rfl, rfl, _, _, _, _⟩ := C
  obtain ⟨⟨u, v, h1, h2, h3⟩, hd⟩ := g
  exact ev_of (pe_glob hg h1 h2 hd) fun σ S H Q sa sp po => po v y M S H q (Same.refl S) sp (h3 S)
/-- a built-in class as a value -/
theorem ev_ty {t : String} (C : Cxi X P w K mg base n) (hm : mg x = none) (hg : Gl X x) (hv : bootBuiltins x = some (.type t)) (q : k (.v (.ty t)) M) (hn : x ≠ "__name__" := by decide) (hd : (x == ("__debug__" : Str)) = false := by decide) : EvK X G M (.Name x p) k := by
  obtain ⟨rfl, rfl, rfl, rfl, rfl, _, _, _, _⟩ := C
  exact ev_of (pe_bltn (v := .ty t) hg hm hv rfl hn hd) fun σ S H Q sa sp po => po _ _ M S H q (Same.refl S) sp .v
theorem ev_int {v : Int} {j : Nat} (q : k (.d (.int v)) M) : EvK X G M (.Constant (.int v) j pos) k := ev_of pe_int fun σ S H Q sa sp po => po _ _ M S H q (Same.refl S) sp (.d (.int v))
theorem ev_str {v : Str} {j : Nat} (q : k (.d (.str v)) M) : EvK X G M (.Constant (.str v) j pos) k := ev_of pe_str fun σ S H Q sa sp po => po _ _ M S H q (Same.refl S) sp (.d (.str v))
theorem ev_bl {v : Bool} {j : Nat} (q : k (.d (.bool v)) M) : EvK X G M (.Constant (.bool v) j pos) k := ev_of pe_bl fun σ S H Q sa sp po => po _ _ M S H q (Same.refl S) sp (.d (.bl v))
theorem ev_non {j : Nat} (q : k (.d .none) M) : EvK X G M (.Constant .none j pos) k := ev_of pe_non fun σ S H Q sa sp po => po _ _ M S H q (Same.refl S) sp (.d .non)

/-! ### arguments, displays -/
theorem ea_nil (q : ka [] M) : EaK X G M [] ka := ea_of pa_nil fun σ S H Q sa sp po => po [] [] M S H q (Same.refl S) sp .nil
theorem ea_cons (h : EvK X G M e fun y M1 => EaK X G M1 es fun ys M2 => ka (y :: ys) M2) (hs : starEach (e :: es) X.env = (false, eval e X.env) :: starEach es X.env := by rfl) : EaK X G M (e :: es) ka :=
  ea_of (pa_cons sE sA hs) fun σ S H Q sa sp po => h.go sa sp fun v y M1 S1 H1 h1 e1 sa1 sp1 is1 => h1.go sa1 sp1 fun vs ys M2 S2 H2 h2 e2 sa2 sp2 is2 => po _ _ M2 S2 H2 h2 (e1.trans e2) sp2 (.cons (is_mono e2 _ _ is1) is2)
/-- all of them data -/
def EdK (X : Cx) (G : Ga) (M : Mem) (es : List Expr) (k : List PyData → Mem → Prop) : Prop := EaK X G M es fun ys M1 => ∃ ds, ys = ds.map Sy.d ∧ k ds M1
theorem ed_nil {kd : List PyData → Mem → Prop} (q : kd [] M) : EdK X G M [] kd := ea_nil ⟨[], rfl, q⟩
theorem ed_cons {kd : List PyData → Mem → Prop} (h : EvK X G M e fun y M1 => ∃ d, y = .d d ∧ EdK X G M1 es fun ds M2 => kd (d :: ds) M2) (hs : starEach (e :: es) X.env = (false, eval e X.env) :: starEach es X.env := by rfl) : EdK X G M (e :: es) kd := by
  refine ea_cons ?_ hs
  refine fun σ S H Q sa sp po => h σ S H Q sa sp fun v y M' S' H' ⟨d, hy, h1⟩ e1 sp1 is1 => ?_
  refine po v y M' S' H' ?_ e1 sp1 is1
  refine fun σ2 S2 H2 Q2 sa2 sp2 po2 => h1 σ2 S2 H2 Q2 sa2 sp2 fun vs ys M3 S3 H3 ⟨ds, hd, h3⟩ e3 sp3 is3 => ?_
  exact po2 vs ys M3 S3 H3 ⟨d :: ds, by rw [hy, hd]; rfl, h3⟩ e3 sp3 is3
theorem len_small {es : List Expr} {xs : List V} (h : xs.length = es.length) (hl : es.length ≤ 1000) : xs.length ≤ sizeLine := Nat.le_of_lt (small1000 (by omega))
/-- how many come -/
theorem ea_len : ∀ {es : List Expr} {k : List Sy → Mem → Prop}, EaK X G M es k → EaK X G M es k := fun h => h
theorem ev_tup {x1 : Nat} (h : EdK X G M es fun ds M1 => ds.length ≤ 1000 ∧ ds ≠ [] ∧ k (.d (.tuple ds)) M1) : EvK X G M (.Tuple es x1 pos) k :=
  ev_of (pe_tup sA) fun σ S H Q sa sp po => EaK.go h sa sp fun vs ys M1 S1 H1 ⟨ds, hy, hl, hne, h1⟩ e1 sa1 sp1 is1 => by
    subst hy
    have ld := dpa_len (isa_dpa is1)
    refine ⟨Nat.le_of_lt (small1000 (by omega)), fun p hp => ?_⟩
    have n1 := sp1.freeS hp
    refine po _ _ M1 (upd S1 p (.tup vs)) _ h1 (e1.trans (same_new n1)) (sp1.put hp) (.d (.tup (.inl (.inl upd_same)) (dpa_mono (same_new n1) _ _ (isa_dpa is1)) hne))
/-- () -/
theorem pe_tup0 {x1 : Nat} : PE X (.Tuple [] x1 pos) (fun _ H Q => ∀ (p : Addr) (o : Obj), H p = none → o.dict = none → Q (.ref p) (upd H p (.frz o (.tup [])))) := by
  refine ⟨fun pins s σ H Q I hq => ?_⟩
  refine wpAny_Tuple_spliced (thn ((pa_nil (X := X)).run pos pins s σ H (fun xs H1 => xs = [] ∧ H1 = H) I ⟨rfl, rfl⟩) fun us s1 ⟨xs, H1, I1, r, e1, e2⟩ => ?_)
  subst e1 e2
  cases r
  refine ⟨Nat.zero_le _, ?_⟩
  have hf : H1 s1.heap.objs.size = none := I1.hok.fresh (Nat.le_refl _)
  refine ⟨.ref s1.heap.objs.size, upd H1 s1.heap.objs.size (.frz { cls := .type "tuple", data := .seq ([] : List Value).toArray } (.tup [])), I1.laid (t' := s1.toks) (fun b u e => Heap.get?_push_of_some _ e) (Nat.le_refl _) ?_, rfl, hq _ _ hf rfl⟩
  exact ⟨Heap.get?_push_size _ rfl, Nat.zero_le _, [], .nil, ⟨_, Heap.get?_push_size _ rfl, rfl, _, rfl⟩⟩
theorem ev_tup0 {x1 : Nat} (q : k (.d (.tuple [])) M) : EvK X G M (.Tuple [] x1 pos) k :=
  ev_of pe_tup0 fun σ S H Q sa sp po p o hp ho => po _ _ M (upd S p (.frz o (.tup []))) _ q (same_new (sp.freeS hp)) (sp.put hp) (.d (.tup0 upd_same ho))
theorem ev_lst (h : EaK X G M es fun ys M1 => ys.length ≤ 1000 ∧ k (.sl ys) M1) : EvK X G M (.List es pos) k :=
  ev_of (pe_lst sA) fun σ S H Q sa sp po => h.go sa sp fun vs ys M1 S1 H1 ⟨hl, h1⟩ e1 sa1 sp1 is1 => by
    have ld := isa_len is1
    refine ⟨Nat.le_of_lt (small1000 (by omega)), fun p hp => ?_⟩
    have n1 := sp1.freeS hp
    exact po _ _ M1 (upd S1 p (.lst vs)) _ h1 (e1.trans (same_new n1)) (sp1.put hp) (.sl upd_same (isa_mono (same_new n1) _ _ is1))
theorem ev_lstM (h : EaK X G M es fun ys M1 => ys.length ≤ 1000 ∧ ∀ a, M1 a = none → k (.v (.ref a)) (updM M1 a (.lst ys))) : EvK X G M (.List es pos) k :=
  ev_of (pe_lst sA) fun σ S H Q sa sp po => h.go sa sp fun vs ys M1 S1 H1 ⟨hl, h1⟩ e1 sa1 sp1 is1 => by
    have ld := isa_len is1
    refine ⟨Nat.le_of_lt (small1000 (by omega)), fun p hp => ?_⟩
    exact po _ _ _ S1 _ (h1 p (sp1.freeM hp)) e1 (sp1.lay hp (.lst is1)) .v

/-! ### operators -/
theorem ev_bin {op : Operator} (h : EvK X G M a fun y1 M1 => EvK X G M1 b fun y2 M2 => OpK X (binaryOp op) y1 y2 M2 k) : EvK X G M (.BinOp a op b pos) k :=
  ev_of (pe_op sR sE sE) fun σ S H Q sa sp po => h.go sa sp fun v y1 M1 S1 H1 h1 e1 sa1 sp1 is1 => h1.go sa1 sp1 fun v2 y2 M2 S2 H2 h2 e2 sa2 sp2 is2 =>
    h2 S2 H2 v v2 Q sp2 (is_mono e2 _ _ is1) is2 (po.later (e1.trans e2))
theorem ev_cmp {op : CmpOp} (h : EvK X G M a fun y1 M1 => EvK X G M1 b fun y2 M2 => OpK X (compareOp op) y1 y2 M2 k) (hm : behindInMarks op b = false := by first | exact nomark _ | rfl) : EvK X G M (.Compare a [op] [b] pos) k :=
  ev_of (pe_cmpR sR sE sE hm) fun σ S H Q sa sp po => h.go sa sp fun v y1 M1 S1 H1 h1 e1 sa1 sp1 is1 => h1.go sa1 sp1 fun v2 y2 M2 S2 H2 h2 e2 sa2 sp2 is2 =>
    h2 S2 H2 v v2 Q sp2 (is_mono e2 _ _ is1) is2 (po.later (e1.trans e2))
/-- a truth value as a test -/
def KB (kb : Bool → Mem → Prop) : Sy → Mem → Prop := fun y M => ∃ c, y = .d (.bool c) ∧ kb c M
theorem is_bool {S : Hp} {v : V} {c : Bool} (h : Is K S v (.d (.bool c))) : v = .bl c := by
  cases h with
  | d h => cases h; rfl
theorem te_cmp {op : CmpOp} (h : EvK X G M a fun y1 M1 => EvK X G M1 b fun y2 M2 => OpK X (compareOp op) y1 y2 M2 (KB kb)) (hm : behindInMarks op b = false := by first | exact nomark _ | rfl) : TeK X G M (.Compare a [op] [b] pos) kb :=
  te_of (pt_cmpR sR sE sE hm) fun σ S H Q sa sp po => h.go sa sp fun v y1 M1 S1 H1 h1 e1 sa1 sp1 is1 => h1.go sa1 sp1 fun v2 y2 M2 S2 H2 h2 e2 sa2 sp2 is2 =>
    h2 S2 H2 v v2 _ sp2 (is_mono e2 _ _ is1) is2 fun v3 y3 M3 S3 H3 ⟨c, ey, h3⟩ e3 sp3 is3 => by
      subst ey
      exact ⟨c, is_bool is3, po c M3 S3 H3 h3 ((e1.trans e2).trans e3) sp3⟩
theorem te_val (h : EvK X G M e (KB kb)) (he : ∀ whole, isTrue e X.env whole = (do let v ← whole; standAt e.pos; holding [v] (truthy v)) := by intro _; rfl) : TeK X G M e kb :=
  te_of (pt_val sE he) fun σ S H Q sa sp po => h.go sa sp fun v3 y3 M3 S3 H3 ⟨c, ey, h3⟩ e3 sa3 sp3 is3 => by
    subst ey
    exact ⟨c, is_bool is3, po c M3 S3 H3 h3 e3 sp3⟩
theorem te_not (h : TeK X G M e fun c M1 => kb (!c) M1) : TeK X G M (.UnaryOp .Not e pos) kb :=
  te_of (pt_not sT) fun σ S H Q sa sp po => h.go sa sp fun c M1 S1 H1 h1 e1 sa1 sp1 => po (!c) M1 S1 H1 h1 e1 sp1
theorem te_bool {op : BoolOp} (h : TwK X G M (.BoolOp op es pos) kb) : TeK X G M (.BoolOp op es pos) kb := te_of (PW.pt sW) fun σ S H Q sa sp po => h σ S H Q sa sp po
theorem tw_and1 (h : TeK X G M a kb) : TwK X G M (.BoolOp .And [a] pos) kb := tw_of (pw_and1 sT) fun σ S H Q sa sp po => h σ S H Q sa sp po
theorem tw_or1 (h : TeK X G M a kb) : TwK X G M (.BoolOp .Or [a] pos) kb := tw_of (pw_or1 sT) fun σ S H Q sa sp po => h σ S H Q sa sp po
theorem tw_and (h : TeK X G M a fun c M1 => if c = true then TwK X G M1 (.BoolOp .And (b :: rest) pos) kb else kb false M1) : TwK X G M (.BoolOp .And (a :: b :: rest) pos) kb :=
  tw_of (pw_and sT sW) fun σ S H Q sa sp po => h.go sa sp fun c M1 S1 H1 h1 e1 sa1 sp1 => by
    cases c with
    | true => exact (iteT (TwK.go h1 sa1 sp1 fun c2 M2 S2 H2 h2 e2 sa2 sp2 => po c2 M2 S2 H2 h2 (e1.trans e2) sp2))
    | false => exact (iteF (po false M1 S1 H1 h1 e1 sp1))
theorem tw_or (h : TeK X G M a fun c M1 => if c = true then kb true M1 else TwK X G M1 (.BoolOp .Or (b :: rest) pos) kb) : TwK X G M (.BoolOp .Or (a :: b :: rest) pos) kb :=
  tw_of (pw_or sT sW) fun σ S H Q sa sp po => h.go sa sp fun c M1 S1 H1 h1 e1 sa1 sp1 => by
    cases c with
    | true => exact (iteT (po true M1 S1 H1 h1 e1 sp1))
    | false => exact (iteF (TwK.go h1 sa1 sp1 fun c2 M2 S2 H2 h2 e2 sa2 sp2 => po c2 M2 S2 H2 h2 (e1.trans e2) sp2))
theorem ev_and1 {op : BoolOp} (h : EvK X G M a k) : EvK X G M (.BoolOp op [a] pos) k := ev_of (pe_one sE) fun σ S H Q sa sp po => h σ S H Q sa sp po
theorem ev_and (h : EvK X G M a (KB fun c M1 => if c = true then EvK X G M1 (.BoolOp .And (b :: rest) pos) k else k (.d (.bool false)) M1)) : EvK X G M (.BoolOp .And (a :: b :: rest) pos) k :=
  ev_of (pe_and sE sE) fun σ S H Q sa sp po => h.go sa sp fun v y M1 S1 H1 ⟨c, ey, h1⟩ e1 sa1 sp1 is1 => by
    subst ey
    refine ⟨c, is_bool is1, ?_⟩
    cases c with
    | true => exact iteT (EvK.go h1 sa1 sp1 fun v2 y2 M2 S2 H2 h2 e2 sa2 sp2 is2 => po v2 y2 M2 S2 H2 h2 (e1.trans e2) sp2 is2)
    | false => exact iteF (po _ _ M1 S1 H1 h1 e1 sp1 (.d (.bl false)))
theorem ev_or (h : EvK X G M a (KB fun c M1 => if c = true then k (.d (.bool true)) M1 else EvK X G M1 (.BoolOp .Or (b :: rest) pos) k)) : EvK X G M (.BoolOp .Or (a :: b :: rest) pos) k :=
  ev_of (pe_or sE sE) fun σ S H Q sa sp po => h.go sa sp fun v y M1 S1 H1 ⟨c, ey, h1⟩ e1 sa1 sp1 is1 => by
    subst ey
    refine ⟨c, is_bool is1, ?_⟩
    cases c with
    | true => exact iteT (po _ _ M1 S1 H1 h1 e1 sp1 (.d (.bl true)))
    | false => exact iteF (EvK.go h1 sa1 sp1 fun v2 y2 M2 S2 H2 h2 e2 sa2 sp2 is2 => po v2 y2 M2 S2 H2 h2 (e1.trans e2) sp2 is2)
theorem ev_not (h : EvK X G M a (KB fun c M1 => k (.d (.bool (!c))) M1)) : EvK X G M (.UnaryOp .Not a pos) k :=
  ev_of (pe_not sE) fun σ S H Q sa sp po => h.go sa sp fun v y M1 S1 H1 ⟨c, ey, h1⟩ e1 sa1 sp1 is1 => by
    subst ey
    exact ⟨c, is_bool is1, po _ _ M1 S1 H1 h1 e1 sp1 (.d (.bl _))⟩

/-! ### operators by values -/
theorem ok_of {ff : Value → Value → Sem Value} {r : R2} {y1 y2 : Sy} (h : OpR X ff r) (q : ∀ (S H : Hp) (x1 x2 : V) (Q : VK), Split X.K S M H → Is X.K S x1 y1 → Is X.K S x2 y2 → Post X.K S k Q → r x1 x2 H Q) : OpK X ff y1 y2 M k :=
  fun S H x1 x2 Q sp i1 i2 po pins s σ v u I rx ry => h pins s σ H x1 x2 v u Q I rx ry (q S H x1 x2 Q sp i1 i2 po)
theorem is_int {S : Hp} {v : V} {c : Int} (h : Is K S v (.d (.int c))) : v = .int c := by
  cases h with
  | d h => cases h; rfl
theorem is_str {S : Hp} {v : V} {c : Str} (h : Is K S v (.d (.str c))) : v = .str c := by
  cases h with
  | d h => cases h; rfl
theorem is_none {S : Hp} {v : V} (h : Is K S v (.d .none)) : v = .non := by
  cases h with
  | d h => cases h; rfl
theorem is_val {S : Hp} {v u : V} (h : Is K S v (.v u)) : v = u := by cases h; rfl
theorem ok_int {ff : Value → Value → Sem Value} {g : Int → Int → V} {d : PyData} {i j : Int} (h : OpR X ff (rI0 g)) (hd : ∀ S, Dq X.K S (g i j) d) (q : k (.d d) M) : OpK X ff (.d (.int i)) (.d (.int j)) M k :=
  ok_of h fun S H x1 x2 Q sp i1 i2 po => ⟨i, j, is_int i1, is_int i2, po _ _ M S H q (Same.refl S) sp (.d (hd S))⟩
theorem ok_intC {ff : Value → Value → Sem Value} {g : Int → Int → V} {C : Int → Int → Prop} {d : PyData} {i j : Int} (h : OpR X ff (rI C g)) (hc : C i j) (hd : ∀ S, Dq X.K S (g i j) d) (q : k (.d d) M) : OpK X ff (.d (.int i)) (.d (.int j)) M k :=
  ok_of h fun S H x1 x2 Q sp i1 i2 po => ⟨i, j, is_int i1, is_int i2, hc, po _ _ M S H q (Same.refl S) sp (.d (hd S))⟩
theorem ok_add {i j : Int} (q : k (.d (.int (i + j))) M) : OpK X (binaryOp .Add) (.d (.int i)) (.d (.int j)) M k := ok_int op_add (fun _ => .int _) q
theorem ok_sub {i j : Int} (q : k (.d (.int (i - j))) M) : OpK X (binaryOp .Sub) (.d (.int i)) (.d (.int j)) M k := ok_int op_sub (fun _ => .int _) q
theorem ok_mul {i j : Int} (hc : CMul i j) (q : k (.d (.int (i * j))) M) : OpK X (binaryOp .Mult) (.d (.int i)) (.d (.int j)) M k := ok_intC op_mul hc (fun _ => .int _) q
theorem ok_mod {i j : Int} (hc : 0 < j) (q : k (.d (.int (i % j))) M) : OpK X (binaryOp .Mod) (.d (.int i)) (.d (.int j)) M k := ok_intC op_mod hc (fun _ => .int _) q
theorem ok_fdiv {i j : Int} (hc : CDivW i j) (q : k (.d (.int (i / j))) M) : OpK X (binaryOp .FloorDiv) (.d (.int i)) (.d (.int j)) M k := ok_intC op_fdivW hc (fun _ => .int _) q
theorem ok_pow {i j : Int} (hc : CPow i j) (q : k (.d (.int (i ^ j.toNat))) M) : OpK X (binaryOp .Pow) (.d (.int i)) (.d (.int j)) M k := ok_intC op_pow hc (fun _ => .int _) q
theorem ok_lt {i j : Int} (q : k (.d (.bool (decide (i < j)))) M) : OpK X (compareOp .Lt) (.d (.int i)) (.d (.int j)) M k := ok_int op_lt (fun _ => .bl _) q
theorem ok_le {i j : Int} (q : k (.d (.bool (decide (i ≤ j)))) M) : OpK X (compareOp .LtE) (.d (.int i)) (.d (.int j)) M k := ok_int op_le (fun _ => .bl _) q
theorem ok_gt {i j : Int} (q : k (.d (.bool (decide (j < i)))) M) : OpK X (compareOp .Gt) (.d (.int i)) (.d (.int j)) M k := ok_int op_gt (fun _ => .bl _) q
theorem ok_ge {i j : Int} (q : k (.d (.bool (decide (j ≤ i)))) M) : OpK X (compareOp .GtE) (.d (.int i)) (.d (.int j)) M k := ok_int op_ge (fun _ => .bl _) q
theorem dec_vi {i j : Int} : decide (V.int i = V.int j) = decide (i = j) := by
  by_cases h : i = j
  · subst h; simp
  · rw [decide_eq_false h, decide_eq_false (fun q => h (V.int.inj q))]
theorem dec_vs {i j : Str} : decide (V.str i = V.str j) = decide (i = j) := by
  by_cases h : i = j
  · subst h; simp
  · rw [decide_eq_false h, decide_eq_false (fun q => h (V.str.inj q))]
theorem ok_eqI {i j : Int} (q : k (.d (.bool (decide (i = j)))) M) : OpK X (compareOp .Eq) (.d (.int i)) (.d (.int j)) M k :=
  ok_of op_eq fun S H x1 x2 Q sp i1 i2 po => by
    rw [is_int i1, is_int i2]
    refine ⟨rfl, ?_⟩
    rw [dec_vi]
    exact po _ _ M S H q (Same.refl S) sp (.d (.bl _))
theorem ok_neI {i j : Int} (q : k (.d (.bool (!decide (i = j)))) M) : OpK X (compareOp .NotEq) (.d (.int i)) (.d (.int j)) M k :=
  ok_of op_ne fun S H x1 x2 Q sp i1 i2 po => by
    rw [is_int i1, is_int i2]
    refine ⟨rfl, ?_⟩
    rw [dec_vi]
    exact po _ _ M S H q (Same.refl S) sp (.d (.bl _))
theorem ok_eqS {i j : Str} (q : k (.d (.bool (decide (i = j)))) M) : OpK X (compareOp .Eq) (.d (.str i)) (.d (.str j)) M k :=
  ok_of op_eq fun S H x1 x2 Q sp i1 i2 po => by
    rw [is_str i1, is_str i2]
    refine ⟨rfl, ?_⟩
    rw [dec_vs]
    exact po _ _ M S H q (Same.refl S) sp (.d (.bl _))
theorem ok_neS {i j : Str} (q : k (.d (.bool (!decide (i = j)))) M) : OpK X (compareOp .NotEq) (.d (.str i)) (.d (.str j)) M k :=
  ok_of op_ne fun S H x1 x2 Q sp i1 i2 po => by
    rw [is_str i1, is_str i2]
    refine ⟨rfl, ?_⟩
    rw [dec_vs]
    exact po _ _ M S H q (Same.refl S) sp (.d (.bl _))
/-- data of any depth -/
theorem ok_eqD {d1 d2 : PyData} (C : Cxi X P w K mg base n) (h1 : SeqAt.shaped d1 = true) (h2 : SeqAt.shaped d2 = true) (q : k (.d (.bool (PyData.eqv d1 d2))) M) : OpK X (compareOp .Eq) (.d d1) (.d d2) M k :=
  ok_of (op_eqD C.room.units) fun S H x1 x2 Q sp i1 i2 po => by
    cases i1 with
    | d i1 =>
      cases i2 with
      | d i2 => exact ⟨d1, d2, dq_dp _ _ (dp_mono sp.sub _ _ i1), dq_dp _ _ (dp_mono sp.sub _ _ i2), h1, h2, po _ _ M S H q (Same.refl S) sp (.d (.bl _))⟩
theorem ok_neD {d1 d2 : PyData} (C : Cxi X P w K mg base n) (h1 : SeqAt.shaped d1 = true) (h2 : SeqAt.shaped d2 = true) (q : k (.d (.bool (!PyData.eqv d1 d2))) M) : OpK X (compareOp .NotEq) (.d d1) (.d d2) M k :=
  ok_of (op_neD C.room.units) fun S H x1 x2 Q sp i1 i2 po => by
    cases i1 with
    | d i1 =>
      cases i2 with
      | d i2 => exact ⟨d1, d2, dq_dp _ _ (dp_mono sp.sub _ _ i1), dq_dp _ _ (dp_mono sp.sub _ _ i2), h1, h2, po _ _ M S H q (Same.refl S) sp (.d (.bl _))⟩
def isNoneD : PyData → Bool
  | .none => true
  | _ => false
theorem dec_non {S : Hp} {v : V} {d : PyData} (h : Dq K S v d) : decide (v = .non) = isNoneD d := by
  cases h <;> first | rfl | exact decide_eq_false (fun q => nomatch q)
theorem ok_isN {d : PyData} (q : k (.d (.bool (isNoneD d))) M) : OpK X (compareOp .Is) (.d d) (.d .none) M k :=
  ok_of op_isN fun S H x1 x2 Q sp i1 i2 po => by
    cases i1 with
    | d i1 =>
      refine ⟨is_none i2, ?_⟩
      rw [dec_non i1]
      exact po _ _ M S H q (Same.refl S) sp (.d (.bl _))
theorem ok_notN {d : PyData} (q : k (.d (.bool (!isNoneD d))) M) : OpK X (compareOp .IsNot) (.d d) (.d .none) M k :=
  ok_of op_notN fun S H x1 x2 Q sp i1 i2 po => by
    cases i1 with
    | d i1 =>
      refine ⟨is_none i2, ?_⟩
      rw [dec_non i1]
      exact po _ _ M S H q (Same.refl S) sp (.d (.bl _))
/-- other values are no None -/
theorem ok_notNdk {n : Nat} {m : Key → Option PyData} (q : k (.d (.bool true)) M) : OpK X (compareOp .IsNot) (.dk n m) (.d .none) M k :=
  ok_of op_notN fun S H x1 x2 Q sp i1 i2 po => by
    cases i1 with
    | dk i1 _ _ => exact ⟨is_none i2, po _ _ M S H q (Same.refl S) sp (.d (.bl true))⟩
theorem ok_isNsl {ys : List Sy} (q : k (.d (.bool false)) M) : OpK X (compareOp .Is) (.sl ys) (.d .none) M k :=
  ok_of op_isN fun S H x1 x2 Q sp i1 i2 po => by
    cases i1 with
    | sl i1 _ => exact ⟨is_none i2, po _ _ M S H q (Same.refl S) sp (.d (.bl false))⟩
end
end Sx
namespace Sx
open PySem PySem.Spec PyProof.Rows L2

/-- subscripts by values -/
def semI (X : Cx) : R2 := fun x y H Q => ∀ (value slice : Expr) (pins : List (Addr × Obj)) (s : Shared) (σ : L2.St) (v u : Value), Inv X pins σ H s → RelV x v → RelV y u → subscripted slice false v u = operate [v, u] (getItem v u) → wpAny (model X.prog X.w) X.A (subscriptTail value slice v u) (EP X pins σ Q) X.xe s
theorem sI {X : Cx} : IxR X (semI X) := fun value slice pins s σ H x y v u Q I rx ry h hs => h value slice pins s σ v u I rx ry hs
def ItK (X : Cx) (y1 y2 : Sy) (M : Mem) (k : Sy → Mem → Prop) : Prop := ∀ (S H : Hp) (x1 x2 : V) (Q : VK), Split X.K S M H → Is X.K S x1 y1 → Is X.K S x2 y2 → Post X.K S k Q → semI X x1 x2 H Q
/-- o[lo:hi] by values -/
def semL (X : Cx) : V → Option Int → Option Int → Hp → VK → Prop := fun x lo hi H Q => ∀ (pins : List (Addr × Obj)) (s : Shared) (σ : L2.St) (v vl vu : Value) (sl : Addr), Inv X pins σ H s → RelV x v → s.heap.IsSliceOf sl vl vu .none → IsPart vl lo → IsPart vu hi →
    ∃ T id, typeLookup (.type T) "__getitem__" = pure (some (.builtin id)) ∧ s.TypeIs v T ∧ wpAny (model X.prog X.w) X.A (getItem v (.ref sl)) (EP X pins σ Q) X.xe s
theorem sL {X : Cx} : SlR X (semL X) := fun pins s σ H x v vl vu lo hi sl Q I rx hs pl pu h => h pins s σ v vl vu sl I rx hs pl pu
/-- a built-in's call by values -/
def semC (X : Cx) (f : Value) : List V → Hp → VK → Prop := fun xs H Q => ∀ (pins : List (Addr × Obj)) (s : Shared) (σ : L2.St) (us : List Value), Inv X pins σ H s → Vals xs us → wpAny (model X.prog X.w) X.A (call f us) (EP X pins σ Q) X.xe s
def CaK (X : Cx) (f : Value) (ys : List Sy) (M : Mem) (k : Sy → Mem → Prop) : Prop := ∀ (S H : Hp) (xs : List V) (Q : VK), Split X.K S M H → IsA X.K S xs ys → Post X.K S k Q → semC X f xs H Q

def setAll (G : Ga) : List Nat → List Sy → Ga
  | i :: is, y :: ys => setAll (G.set i (some y)) is ys
  | _, _ => G
/-- targets of an unpacking -/
inductive Tgs (X : Cx) : List Expr → List Nat → Prop
  | nil : Tgs X [] []
  | cons {i : Nat} {x : Str} {p : Pos} {es : List Expr} {is : List Nat} : Slot X i x → Tgs X es is → Tgs X (.Name x p :: es) (i :: is)
def gAll : List Nat → TGs
  | [] => gNil
  | i :: is => gCons (gName i) (gAll is)
theorem pgs_all {X : Cx} (nd : X.N.Nodup) : ∀ {es : List Expr} {is : List Nat}, Tgs X es is → PGs X es (gAll is)
  | _, _, .nil => pgs_nil
  | _, _, .cons s r => pgs_cons (pg_name nd s.n s.loc s.fn) (pgs_all nd r)
theorem tgs_len {X : Cx} : ∀ {es : List Expr} {is : List Nat}, Tgs X es is → es.length = is.length
  | _, _, .nil => rfl
  | _, _, .cons _ r => by rw [List.length_cons, List.length_cons, tgs_len r]
theorem tgs_each {X : Cx} : ∀ {es : List Expr} {is : List Nat}, Tgs X es is → (assignEach es X.env).length = is.length ∧ (assignEach es X.env).findIdx? (·.1) = none
  | _, _, .nil => ⟨rfl, rfl⟩
  | _, _, .cons (x := x) (p := p) (es := es) (is := is) s r => by
    obtain ⟨h1, h2⟩ := tgs_each r
    have e : assignEach (.Name x p :: es) X.env = (false, assign (.Name x p) X.env) :: assignEach es X.env := by rfl
    rw [e]
    refine ⟨by rw [List.length_cons, List.length_cons, h1], ?_⟩
    rw [List.findIdx?_cons, h2]
    rfl
theorem gAll_go {K : PySem.W.Frag} {S : Hp} : ∀ {is : List Nat} {ys : List Sy} {vs : List V} {G : Ga} {σ : L2.St} {H : Hp} {Q : L2.St → Hp → Prop}, is.length = ys.length → IsA K S vs ys → Sat K G σ S → (∀ σ', Sat K (setAll G is ys) σ' S → Q σ' H) → gAll is vs σ H Q
  | [], [], _, G, σ, H, Q, _, .nil, sa, q => ⟨rfl, q σ sa⟩
  | i :: is, y :: ys, _, G, σ, H, Q, hl, .cons (x := v) (xs := vs) h1 h2, sa, q => ⟨v, vs, rfl, gAll_go (by simpa using hl) h2 (sa.set h1) q⟩

section
variable {X : Cx} {P : Program} {w : World} {K : PySem.W.Frag} {mg : Str → Option Value} {base : Heap} {n j : Nat} {G : Ga} {M : Mem} {k : Sy → Mem → Prop} {kb : Bool → Mem → Prop} {ka : List Sy → Mem → Prop}
variable {a b c e o : Expr} {es rest : List Expr} {x m : Str} {p p2 p3 pos apos cpos : Pos} {i : Nat} {y z : Sy} {T : Tr} {f : Addr} {ds : List PyData} {d : PyData} {ys : List Sy}

/-! ### subscripts, slices -/
theorem ev_sub (h : EvK X G M a fun y1 M1 => EvK X G M1 b fun y2 M2 => ItK X y1 y2 M2 k) (hs : PlainIx b := by exact fun _ _ => rfl) : EvK X G M (.Subscript a b pos) k :=
  ev_of (pe_ix sI sE sE hs) fun σ S H Q sa sp po => h.go sa sp fun v y1 M1 S1 H1 h1 e1 sa1 sp1 is1 => h1.go sa1 sp1 fun v2 y2 M2 S2 H2 h2 e2 sa2 sp2 is2 =>
    h2 S2 H2 v v2 Q sp2 (is_mono e2 _ _ is1) is2 (po.later (e1.trans e2))
theorem it_of {r : R2} {y1 y2 : Sy} (h : IxR X r) (q : ∀ (S H : Hp) (x1 x2 : V) (Q : VK), Split X.K S M H → Is X.K S x1 y1 → Is X.K S x2 y2 → Post X.K S k Q → r x1 x2 H Q) : ItK X y1 y2 M k :=
  fun S H x1 x2 Q sp i1 i2 po value slice pins s σ v u I rx ry hs => h value slice pins s σ H x1 x2 v u Q I rx ry (q S H x1 x2 Q sp i1 i2 po) hs
theorem is_tup {S : Hp} {v : V} (h : Is K S v (.d (.tuple ds))) : ∃ a xs, v = .ref a ∧ SqT K S a xs ∧ DqAll K S xs ds := by
  cases h with
  | d h => cases h with
    | tup h1 h2 _ => exact ⟨_, _, rfl, h1, h2⟩
    | tup0 h1 _ => exact ⟨_, _, rfl, .inl (.inr ⟨_, h1⟩), .nil⟩
theorem atI_map {A : Type} {xs : List A} {i : Nat} {x : A} (h : xs[i]? = some x) : atI xs ((i : Nat) : Int) = some x := atI_nat h
theorem it_tup {i : Nat} (hd : ds[i]? = some d) (q : k (.d d) M) : ItK X (.d (.tuple ds)) (.d (.int (i : Nat))) M k :=
  it_of ix_tup fun S H x1 x2 Q sp i1 i2 po => by
    obtain ⟨a, xs, rfl, h1, h2⟩ := is_tup i1
    obtain ⟨v, hv, hd2⟩ := dpa_get h2 hd
    exact ⟨a, xs, (i : Nat), v, rfl, is_int i2, same_sqT sp.sub h1, atI_map hv, po _ _ M S H q (Same.refl S) sp (.d hd2)⟩
/-- t[-1] -/
theorem it_tupL (hd : ds.getLast? = some d) (q : k (.d d) M) : ItK X (.d (.tuple ds)) (.d (.int (-1))) M k :=
  it_of ix_tup fun S H x1 x2 Q sp i1 i2 po => by
    obtain ⟨a, xs, rfl, h1, h2⟩ := is_tup i1
    have hl := dpa_len h2
    rw [List.getLast?_eq_getElem?] at hd
    obtain ⟨v, hv, hd2⟩ := dpa_get h2 hd
    have h0 : 0 < ds.length := by
      cases ds with
      | nil => simp at hd
      | cons _ _ => simp
    refine ⟨a, xs, -1, v, rfl, is_int i2, same_sqT sp.sub h1, ?_, po _ _ M S H q (Same.refl S) sp (.d hd2)⟩
    unfold atI
    have e1 : ixN xs.length (-1) = some (ds.length - 1) := by
      rw [hl]
      unfold ixN
      rw [if_neg (by decide), if_pos (by omega)]
      congr 1
      omega
    rw [e1]
    exact hv
theorem it_sl {i : Nat} (hd : ys[i]? = some y) (q : k y M) : ItK X (.sl ys) (.d (.int (i : Nat))) M k :=
  it_of ix_list fun S H x1 x2 Q sp i1 i2 po => by
    cases i1 with
    | sl h1 h2 =>
      obtain ⟨v, hv, hd2⟩ := isa_get h2 hd
      exact ⟨_, _, (i : Nat), v, rfl, is_int i2, .inl (.inl (sp.sub _ _ h1)), atI_map hv, po _ _ M S H q (Same.refl S) sp hd2⟩
theorem it_mem {i : Nat} {f : Addr} (hm : M f = some (.lst ys)) (hd : ys[i]? = some y) (q : k y M) : ItK X (.v (.ref f)) (.d (.int (i : Nat))) M k :=
  it_of ix_list fun S H x1 x2 Q sp i1 i2 po => by
    obtain ⟨_, o, h1, h2⟩ := sp.mem f _ hm
    cases h2 with
    | lst h2 =>
      obtain ⟨v, hv, hd2⟩ := isa_get h2 hd
      exact ⟨_, _, (i : Nat), v, is_val i1, is_int i2, .inl (.inl h1), atI_map hv, po _ _ M S H q (Same.refl S) sp hd2⟩
/-- a written dict -/
theorem it_kd {f : Addr} {z : Str} {v : V} (C : Cxi X P w K mg base n) (h : KDct K w f z v) (hy : ∀ S, Is K S v y) (q : k y M) : ItK X (.v (.ref f)) (.d (.str z)) M k := by
  obtain ⟨rfl, rfl, rfl, rfl, rfl, _, _, _, _⟩ := C
  exact it_of ix_kdict fun S H x1 x2 Q sp i1 i2 po => ⟨f, z, v, is_val i1, is_str i2, h, po _ _ M S H q (Same.refl S) sp (hy S)⟩
theorem ix_dict (hu : X.A.units + 1 < cLine) : IxR X (fun x y H Q => ∃ a v, x = .ref a ∧ DGet H a y (some v) ∧ Q v H) := by
  intro value slice pins s σ H x y v u Q I rx ry h hs
  obtain ⟨a, r, rfl, g, q⟩ := h
  obtain rfl : v = Value.ref a := rx
  exact tail_any (dict_typeIs I g) slot_dict_getitem.lookup (d_getItem hu I g ry fun w' s3 I3 rw' => ⟨r, H, I3, rw', q⟩) hs
theorem it_dk {nn : Nat} {mm : Key → Option PyData} {z : Key} {dz : PyData} (C : Cxi X P w K mg base n) (hz : ∀ (S : Hp) (v : V), Dq X.K S v dz → v = kV z) (h : mm z = some d) (q : k (.d d) M) : ItK X (.dk nn mm) (.d dz) M k :=
  it_of (ix_dict (hu_of C.room)) fun S H x1 x2 Q sp i1 i2 po => by
    cases i1 with
    | @dk a kvs _ _ h1 h2 h3 =>
      have z1 := h3 z
      rw [h] at z1
      cases e1 : valV kvs z with
      | none => rw [e1] at z1; exact z1.elim
      | some v =>
        rw [e1] at z1
        cases i2 with
        | d i2 =>
          refine ⟨a, v, rfl, ?_, po _ _ M S H q (Same.refl S) sp (.d z1)⟩
          rw [hz S _ i2, ← e1]
          exact .inl ⟨kvs, z, .inl (sp.sub _ _ h1), rfl, rfl⟩
theorem kstr {z : Str} : ∀ (S : Hp) (v : V), Dq X.K S v (.str z) → v = kV (Sum.inr z) := fun _ _ h => by cases h; rfl
theorem it_dkS {nn : Nat} {mm : Key → Option PyData} {z : Str} (C : Cxi X P w K mg base n) (h : mm (Sum.inr z) = some d) (q : k (.d d) M) : ItK X (.dk nn mm) (.d (.str z)) M k := it_dk C kstr h q
/-- in, not in -/
def tDI (neg : Bool) : R2 := fun y x H Q => ∃ a o, x = .ref a ∧ DGet H a y o ∧ Q (.bl (if neg then !o.isSome else o.isSome)) H
theorem op_inD (hu : X.A.units + 1 < cLine) : OpR X (compareOp .In) (tDI false) := fun pins s σ H y x v u Q I ry rx ⟨a, ov, ex, g, q⟩ => by
  subst ex
  obtain rfl : u = Value.ref a := rx
  exact d_in hu I g ry fun s3 I3 => ⟨.bl ov.isSome, H, I3, rfl, q⟩
theorem op_notInD (hu : X.A.units + 1 < cLine) : OpR X (compareOp .NotIn) (tDI true) := fun pins s σ H y x v u Q I ry rx ⟨a, ov, ex, g, q⟩ => by
  subst ex
  obtain rfl : u = Value.ref a := rx
  exact d_notIn hu I g ry fun s3 I3 => ⟨.bl (!ov.isSome), H, I3, rfl, q⟩
theorem ok_notInDk {nn : Nat} {mm : Key → Option PyData} {z : Str} (C : Cxi X P w K mg base n) (q : k (.d (.bool (!(mm (Sum.inr z)).isSome))) M) : OpK X (compareOp .NotIn) (.d (.str z)) (.dk nn mm) M k :=
  ok_of (op_notInD (hu_of C.room)) fun S H x1 x2 Q sp i1 i2 po => by
    cases i2 with
    | @dk a kvs _ _ h1 h2 h3 =>
      have z1 := h3 (Sum.inr z)
      refine ⟨a, valV kvs (Sum.inr z), rfl, ?_, ?_⟩
      · rw [is_str i1]
        exact .inl ⟨kvs, Sum.inr z, .inl (sp.sub _ _ h1), rfl, rfl⟩
      · have e : (valV kvs (Sum.inr z)).isSome = (mm (Sum.inr z)).isSome := by
          cases h4 : valV kvs (Sum.inr z) with
          | none => cases h5 : mm (Sum.inr z) with
            | none => rfl
            | some y => rw [h4, h5] at z1; exact z1.elim
          | some v => cases h5 : mm (Sum.inr z) with
            | none => rw [h4, h5] at z1; exact z1.elim
            | some y => rfl
        show Q (.bl (!(valV kvs (Sum.inr z)).isSome)) H
        rw [e]
        exact po _ _ M S H q (Same.refl S) sp (.d (.bl _))
theorem ok_notInKd {f : Addr} {z : Str} {v : V} (C : Cxi X P w K mg base n) (h : KDct K w f z v) (hs : (f == sysModules) = false) (q : k (.d (.bool false)) M) : OpK X (compareOp .NotIn) (.d (.str z)) (.v (.ref f)) M k := by
  obtain ⟨rfl, rfl, rfl, rfl, rfl, _, _, _, _⟩ := C
  obtain ⟨es, nn, u, h1, h2, h3, _⟩ := h
  exact ok_of (op_notIn_kd (es := es) (n := nn) ⟨h1, h2, hs⟩) fun S H x1 x2 Q sp i1 i2 po => ⟨z, _, is_str i1, is_val i2, h3, po _ _ M S H q (Same.refl S) sp (.d (.bl _))⟩
/-- in a tuple of texts -/
theorem flat_strs {S : Hp} : ∀ {zs : List Str} {xs : List V}, DqAll K S xs (zs.map PyData.str) → xs = zs.map V.str
  | [], _, h => by
    have h' : DqAll K S _ [] := h
    cases h'
    rfl
  | z :: zs, _, h => by
    have h' : DqAll K S _ (PyData.str z :: zs.map PyData.str) := h
    cases h' with
    | cons h1 h2 =>
      cases h1
      rw [flat_strs h2, List.map_cons]
theorem inV_strs {z : Str} : ∀ {zs : List Str}, inV (.str z) (zs.map V.str) = decide (z ∈ zs)
  | [] => rfl
  | x :: zs => by
    unfold inV
    rw [List.map_cons, List.any_cons]
    have h := inV_strs (z := z) (zs := zs)
    unfold inV at h
    rw [h]
    show (eqV (V.str x) (V.str z) || decide (z ∈ zs)) = decide (z ∈ x :: zs)
    have e : eqV (V.str x) (V.str z) = decide (x = z) := by
      show (x == z) = decide (x = z)
      exact Bool.beq_eq_decide_eq _ _
    rw [e]
    by_cases h1 : x = z
    · subst h1; simp
    · have h2 : z ≠ x := fun q => h1 q.symm
      simp [h1, h2]
theorem all_flat : ∀ {zs : List Str}, (zs.map V.str).all flatV = true
  | [] => rfl
  | z :: zs => by rw [List.map_cons, List.all_cons, all_flat]; rfl
theorem ok_inTs {z : Str} {zs : List Str} (q : k (.d (.bool (decide (z ∈ zs)))) M) : OpK X (compareOp .In) (.d (.str z)) (.d (.tuple (zs.map PyData.str))) M k :=
  ok_of op_in_seq fun S H x1 x2 Q sp i1 i2 po => by
    obtain ⟨a, xs, rfl, h1, h2⟩ := is_tup i2
    have e := flat_strs h2
    subst e
    rw [is_str i1]
    refine ⟨a, _, rfl, .inr (same_sqT sp.sub h1), rfl, all_flat, ?_⟩
    show Q (.bl (if false = true then !inV (.str z) (zs.map V.str) else inV (.str z) (zs.map V.str))) H
    rw [if_neg Bool.false_ne_true, inV_strs]
    exact po _ _ M S H q (Same.refl S) sp (.d (.bl _))

/-! ### calls -/
theorem ev_call (C : Cxi X P w K mg base n) (D : Dfn P w K mg base x j T) (hj : j ≤ n) (hg : Gl X x) (h : EaK X G M (e :: es) fun ys M1 => T ys M1 k)
    (he : starEach (e :: es) X.env = (false, eval e X.env) :: starEach es X.env := by rfl) (hpl : (backTo pos (starEach es X.env)).any (·.1) = false := by rfl) : EvK X G M (.Call (.Name x p) (e :: es) [] pos) k := by
  obtain ⟨rfl, rfl, rfl, rfl, rfl, nd, cal, room, own⟩ := C
  obtain ⟨⟨f, fd, ps, F, hm, hk, hb⟩, hd⟩ := D
  refine ev_of (pe_call F (room.mono hj) hg hm hk hb .nil pass0 sA hd he hpl) fun σ S H Q sa sp po => h.go sa sp fun vs ys M1 S1 H1 h1 e1 sa1 sp1 is1 => ?_
  exact ⟨ys, S1, M1, k, h1, sp1, by rw [List.append_nil]; exact is1, po.later e1⟩
/-- a def that a name of the body's holds -/
theorem ev_callL {i : Nat} (C : Cxi X P w K mg base n) (s : Slot X i x) (hi : G[i]? = some (some (.v (.ref f)))) (D : Fat P w K mg base f j T) (hj : j ≤ n) (h : EaK X G M (e :: es) fun ys M1 => T ys M1 k)
    (he : starEach (e :: es) X.env = (false, eval e X.env) :: starEach es X.env := by rfl) (hpl : (backTo pos (starEach es X.env)).any (·.1) = false := by rfl) : EvK X G M (.Call (.Name x p) (e :: es) [] pos) k := by
  obtain ⟨rfl, rfl, rfl, rfl, rfl, nd, cal, room, own⟩ := C
  obtain ⟨fd, ps, F, hk, hb⟩ := D.ex
  refine ev_of (pe_callL (i := i) F (room.mono hj) s.n s.vis hk hb .nil pass0 sA s.dbg s.cd he hpl) fun σ S H Q sa sp po => ?_
  obtain ⟨v, h1, h2⟩ := sa.at_ i _ hi
  have e0 := is_val h2
  subst e0
  refine ⟨h1, h.go sa sp fun vs ys M1 S1 H1 h1 e1 sa1 sp1 is1 => ?_⟩
  exact ⟨ys, S1, M1, k, h1, sp1, by rw [List.append_nil]; exact is1, po.later e1⟩

/-! ### instances -/
theorem pair_look {S : Hp} {f : Str} : ∀ {fs : List (Str × V)} {gs : List (Str × Sy)}, Paired (fun (p : Str × V) (q : Str × Sy) => p.1 = q.1 ∧ Is K S p.2 q.2) fs gs → (match gs.lookup f with | some y => ∃ v, fs.lookup f = some v ∧ Is K S v y | none => fs.lookup f = none)
  | _, _, .nil => rfl
  | _, _, .cons (a := p) (b := q) (l₁ := fs) (l₂ := gs) h t => by
    obtain ⟨p1, p2⟩ := p
    obtain ⟨q1, q2⟩ := q
    obtain ⟨h1, h2⟩ := h
    have h1 : p1 = q1 := h1
    subst h1
    rw [List.lookup_cons, List.lookup_cons]
    cases e : (f == p1) with
    | true => exact ⟨p2, rfl, h2⟩
    | false => exact pair_look t
def putY (f : Str) (v : Sy) : List (Str × Sy) → List (Str × Sy)
  | [] => [(f, v)]
  | (g, x) :: r => if g = f then (g, v) :: r else (g, x) :: putY f v r
theorem pair_put {S : Hp} {f : Str} {v : V} {y : Sy} (hv : Is K S v y) : ∀ {fs : List (Str × V)} {gs : List (Str × Sy)}, Paired (fun (p : Str × V) (q : Str × Sy) => p.1 = q.1 ∧ Is K S p.2 q.2) fs gs →
    Paired (fun (p : Str × V) (q : Str × Sy) => p.1 = q.1 ∧ Is K S p.2 q.2) (putF f v fs) (putY f y gs)
  | _, _, .nil => .cons ⟨rfl, hv⟩ .nil
  | _, _, .cons (a := p) (b := q) (l₁ := fs) (l₂ := gs) h t => by
    obtain ⟨p1, p2⟩ := p
    obtain ⟨q1, q2⟩ := q
    obtain ⟨h1, h2⟩ := h
    have h1 : p1 = q1 := h1
    subst h1
    unfold putF putY
    by_cases e : p1 = f
    · rw [if_pos e, if_pos e]
      exact .cons ⟨rfl, hv⟩ t
    · rw [if_neg e, if_neg e]
      exact .cons ⟨rfl, h2⟩ (pair_put hv t)
theorem pair_len {A B : Type} {F : A → B → Prop} : ∀ {l : List A} {r : List B}, Paired F l r → l.length = r.length
  | _, _, .nil => rfl
  | _, _, .cons _ t => by rw [List.length_cons, List.length_cons, pair_len t]
/-- what is known of the instance at a -/
theorem mem_ins {S H : Hp} {a C dx : Addr} {gs : List (Str × Sy)} (sp : Split K S M H) (h : M a = some (.ins C dx gs)) : S a = none ∧ ∃ fs, H a = some (.ins C dx fs) ∧ Paired (fun (p : Str × V) (q : Str × Sy) => p.1 = q.1 ∧ Is K S p.2 q.2) fs gs := by
  obtain ⟨h1, o, h2, h3⟩ := sp.mem a _ h
  cases h3 with
  | ins h3 => exact ⟨h1, _, h2, h3⟩
theorem ev_fld {f : Str} (C : Cxi X P w K mg base n) (h : EvK X G M o fun y M1 => ∃ (a D dx : Addr) (gs : List (Str × Sy)) (z : Sy), y = .v (.ref a) ∧ M1 a = some (.ins D dx gs) ∧ Cls K D ∧ NoAttr K D f ∧ gs.lookup f = some z ∧ k z M1)
    (hb : attributeBase o f X.env (eval o X.env) = eval o X.env := by rfl) : EvK X G M (.Attribute o f pos) k := by
  obtain ⟨rfl, rfl, rfl, rfl, rfl, nd, cal, room, own⟩ := C
  refine ev_of (pe_fld sE hb) fun σ S H Q sa sp po => h.go sa sp fun v y M1 S1 H1 ⟨a, D, dx, gs, z, ey, hm, hc, hn, hl, h1⟩ e1 sa1 sp1 is1 => ?_
  subst ey
  obtain ⟨_, fs, h2, h3⟩ := mem_ins sp1 hm
  have q := pair_look (f := f) h3
  rw [hl] at q
  obtain ⟨u, q1, q2⟩ := q
  exact ⟨a, D, dx, fs, u, is_val is1, h2, hc, hn, q1, po u z M1 S1 H1 h1 e1 sp1 q2⟩
theorem ev_meth {pl : Sem Bool} {D : Addr} (C : Cxi X P w K mg base n) (F : Mfn P w K mg base D m j T) (hj : j ≤ n)
    (h : EvK X G M o fun y M1 => ∃ (a dx : Addr) (gs : List (Str × Sy)), y = .v (.ref a) ∧ M1 a = some (.ins D dx gs) ∧ gs.lookup m = none ∧ EaK X G M1 (e :: es) fun ys M2 => T (y :: ys) M2 k)
    (hst : starEach (e :: es) X.env = (false, eval e X.env) :: starEach es X.env := by rfl) (hpl : (backTo pos (starEach es X.env)).any (·.1) = false := by rfl)
    (ht : eval (.Call (.Attribute o m apos) (e :: es) [] pos) X.env = (do
      let ov ← eval o X.env
      standAt apos.atName
      let (f, first) ← holding [ov] (getMethod ov m pl)
      callWith pos f first (backTo pos (starEach (e :: es) X.env)) (backToKw pos (keywordEach [] X.env))) := by rfl) : EvK X G M (.Call (.Attribute o m apos) (e :: es) [] pos) k := by
  obtain ⟨rfl, rfl, rfl, rfl, rfl, nd, cal, room, own⟩ := C
  obtain ⟨⟨f, fd, ps, F, hm, hb⟩, hc⟩ := F
  refine ev_of (pe_meth sE hc hm F (room.mono hj) hb .nil pass0 sA hst hpl ht) fun σ S H Q sa sp po => h.go sa sp fun v y M1 S1 H1 ⟨a, dx, gs, ey, hm1, hl, h1⟩ e1 sa1 sp1 is1 => ?_
  subst ey
  obtain ⟨_, fs, h2, h3⟩ := mem_ins sp1 hm1
  have q := pair_look (f := m) h3
  rw [hl] at q
  refine ⟨a, dx, fs, is_val is1, h2, q, EaK.go h1 sa1 sp1 fun vs ys M2 S2 H2 h4 e2 sa2 sp2 is2 => ?_⟩
  exact ⟨_, S2, M2, k, h4, sp2, .cons (is_mono e2 _ _ is1) (by rw [List.append_nil]; exact is2), po.later (e1.trans e2)⟩
theorem ev_meth0 {pl : Sem Bool} {D : Addr} (C : Cxi X P w K mg base n) (F : Mfn P w K mg base D m j T) (hj : j ≤ n)
    (h : EvK X G M o fun y M1 => ∃ (a dx : Addr) (gs : List (Str × Sy)), y = .v (.ref a) ∧ M1 a = some (.ins D dx gs) ∧ gs.lookup m = none ∧ T [y] M1 k)
    (ht : eval (.Call (.Attribute o m apos) [] [] pos) X.env = (do
      let ov ← eval o X.env
      standAt apos.atName
      let (f, first) ← holding [ov] (getMethod ov m pl)
      callWith pos f first (backTo pos (starEach [] X.env)) (backToKw pos (keywordEach [] X.env))) := by rfl) : EvK X G M (.Call (.Attribute o m apos) [] [] pos) k := by
  obtain ⟨rfl, rfl, rfl, rfl, rfl, nd, cal, room, own⟩ := C
  obtain ⟨⟨f, fd, ps, F, hm, hb⟩, hc⟩ := F
  refine ev_of (pe_meth0 sE hc hm F (room.mono hj) hb .nil pass0 ht) fun σ S H Q sa sp po => h.go sa sp fun v y M1 S1 H1 ⟨a, dx, gs, ey, hm1, hl, h1⟩ e1 sa1 sp1 is1 => ?_
  subst ey
  obtain ⟨_, fs, h2, h3⟩ := mem_ins sp1 hm1
  have q := pair_look (f := m) h3
  rw [hl] at q
  refine ⟨a, dx, fs, is_val is1, h2, q, ?_⟩
  exact ⟨_, S1, M1, k, h1, sp1, .cons is1 .nil, po.later e1⟩
/-- a class that is made, its __init__ -/
structure Mak (P : Program) (w : World) (K : PySem.W.Frag) (mg : Str → Option Value) (base : Heap) (x : Str) (C : Addr) (k : Nat) (T : Tr) : Prop where
  ex : ∃ (f : Addr) (fd : FuncData) (ps : List Str), FnOk P w K mg base CX0 k f fd ps (spT K T) ∧ Mk K C f ∧ Binds K fd ps []
  mg_ : mg x = some (.ref C)
  dbg : (x == ("__debug__" : Str)) = false
theorem ev_make {D : Addr} (C : Cxi X P w K mg base n) (F : Mak P w K mg base x D j T) (hj : j + 1 ≤ n) (hg : Gl X x)
    (h : EaK X G M (e :: es) fun ys M1 => ∀ a dx, M1 a = none → T (.v (.ref a) :: ys) (updM M1 a (.ins D dx [])) fun z M2 => z = .d .none ∧ k (.v (.ref a)) M2)
    (he : starEach (e :: es) X.env = (false, eval e X.env) :: starEach es X.env := by rfl) (hpl : (backTo pos (starEach es X.env)).any (·.1) = false := by rfl) : EvK X G M (.Call (.Name x p) (e :: es) [] pos) k := by
  obtain ⟨rfl, rfl, rfl, rfl, rfl, nd, cal, room, own⟩ := C
  obtain ⟨⟨f, fd, ps, F, hm, hb⟩, hmx, hd⟩ := F
  refine ev_of (pe_make hm F (room.mono hj) hg hmx hb .nil pass0 sA hd he hpl) fun σ S H Q sa sp po => h.go sa sp fun vs ys M1 S1 H1 h1 e1 sa1 sp1 is1 => ?_
  intro x' dx nx ndx ne
  have s2 : Split X.K S1 M1 (upd H1 dx (.own x')) := sp1.grow (same_new ndx)
  have nx2 : (upd H1 dx (.own x')) x' = none := by rw [upd_ne ne.symm]; exact nx
  have s3 : Split X.K S1 (updM M1 x' (.ins D dx [])) (upd (upd H1 dx (.own x')) x' (.ins D dx [])) := s2.lay nx2 (.ins .nil)
  refine ⟨_, S1, _, _, h1 x' dx (sp1.freeM nx), s3, .cons .v (by rw [List.append_nil]; exact is1), fun v y M2 S2 H2 ⟨ez, h2⟩ e2 sp2 is2 => ?_⟩
  subst ez
  exact ⟨is_none is2, po _ _ M2 S2 H2 h2 (e1.trans e2) sp2 .v⟩

/-! ### built-ins -/
theorem sCa {X : Cx} {f : Value} : CallR X f (semC X f) := fun pins s σ H xs us Q I r h => h pins s σ us I r
theorem ev_callB {id : String} (C : Cxi X P w K mg base n) (hm : mg x = none) (hg : Gl X x) (hv : bootBuiltins x = some (.builtin id)) (h : EaK X G M (e :: es) fun ys M1 => CaK X (.builtin id) ys M1 k) (hn : x ≠ "__name__" := by decide) (hdb : (x == ("__debug__" : Str)) = false := by decide)
    (he : starEach (e :: es) X.env = (false, eval e X.env) :: starEach es X.env := by rfl) (hpl : (backTo pos (starEach es X.env)).any (·.1) = false := by rfl) : EvK X G M (.Call (.Name x p) (e :: es) [] pos) k := by
  obtain ⟨rfl, rfl, rfl, rfl, rfl, nd, cal, room, own⟩ := C
  refine ev_of (pe_callB sCa hg hm hv sA hn hdb he hpl) fun σ S H Q sa sp po => h.go sa sp fun vs ys M1 S1 H1 h1 e1 sa1 sp1 is1 => ?_
  exact h1 S1 H1 vs Q sp1 is1 (po.later e1)
theorem ev_callT {t : String} (C : Cxi X P w K mg base n) (hm : mg x = none) (hg : Gl X x) (hv : bootBuiltins x = some (.type t)) (h : EaK X G M (e :: es) fun ys M1 => CaK X (.type t) ys M1 k) (hn : x ≠ "__name__" := by decide) (hdb : (x == ("__debug__" : Str)) = false := by decide)
    (he : starEach (e :: es) X.env = (false, eval e X.env) :: starEach es X.env := by rfl) (hpl : (backTo pos (starEach es X.env)).any (·.1) = false := by rfl) : EvK X G M (.Call (.Name x p) (e :: es) [] pos) k := by
  obtain ⟨rfl, rfl, rfl, rfl, rfl, nd, cal, room, own⟩ := C
  refine ev_of (pe_callTy sCa hg hm hv sA hn hdb he hpl) fun σ S H Q sa sp po => h.go sa sp fun vs ys M1 S1 H1 h1 e1 sa1 sp1 is1 => ?_
  exact h1 S1 H1 vs Q sp1 is1 (po.later e1)
theorem ca_of {f : Value} {r : List V → Hp → VK → Prop} (h : CallR X f r) (q : ∀ (S H : Hp) (xs : List V) (Q : VK), Split X.K S M H → IsA X.K S xs ys → Post X.K S k Q → r xs H Q) : CaK X f ys M k :=
  fun S H xs Q sp is po pins s σ us I r => h pins s σ H xs us Q I r (q S H xs Q sp is po)
theorem isa1 {S : Hp} {xs : List V} {y : Sy} (h : IsA K S xs [y]) : ∃ v, xs = [v] ∧ Is K S v y := by
  cases h with
  | cons h1 h2 => cases h2; exact ⟨_, rfl, h1⟩
theorem isa2 {S : Hp} {xs : List V} {y y2 : Sy} (h : IsA K S xs [y, y2]) : ∃ v v2, xs = [v, v2] ∧ Is K S v y ∧ Is K S v2 y2 := by
  cases h with
  | cons h1 h2 =>
    obtain ⟨v, e, h3⟩ := isa1 h2
    subst e
    exact ⟨_, _, rfl, h1, h3⟩
theorem ca_lenT (hl : ds.length ≤ 1000) (q : k (.d (.int (ds.length : Nat))) M) : CaK X (.builtin "len") [.d (.tuple ds)] M k :=
  ca_of call_len fun S H xs Q sp is po => by
    obtain ⟨v, rfl, i1⟩ := isa1 is
    obtain ⟨a, xs, rfl, h1, h2⟩ := is_tup i1
    refine ⟨_, ds.length, rfl, .inr ⟨xs, same_sqT sp.sub h1, (dpa_len h2).symm⟩, po _ _ M S H q (Same.refl S) sp (.d (.int _))⟩
theorem ca_lenS {z : Str} (hl : z.length ≤ sizeLine) (q : k (.d (.int (z.length : Nat))) M) : CaK X (.builtin "len") [.d (.str z)] M k :=
  ca_of call_len fun S H xs Q sp is po => by
    obtain ⟨v, rfl, i1⟩ := isa1 is
    rw [is_str i1]
    exact ⟨_, _, rfl, ⟨hl, rfl⟩, po _ _ M S H q (Same.refl S) sp (.d (.int _))⟩
theorem ca_lenL {zs : List Sy} (q : k (.d (.int (zs.length : Nat))) M) : CaK X (.builtin "len") [.sl zs] M k :=
  ca_of call_len fun S H xs Q sp is po => by
    obtain ⟨v, rfl, i1⟩ := isa1 is
    cases i1 with
    | sl h1 h2 => exact ⟨_, _, rfl, Or.inl ⟨_, Or.inl (Or.inl (sp.sub _ _ h1)), (isa_len h2).symm⟩, po _ _ M S H q (Same.refl S) sp (.d (.int _))⟩
theorem ca_lenM {f : Addr} {zs : List Sy} (hm : M f = some (.lst zs)) (q : k (.d (.int (zs.length : Nat))) M) : CaK X (.builtin "len") [.v (.ref f)] M k :=
  ca_of call_len fun S H xs Q sp is po => by
    obtain ⟨v, rfl, i1⟩ := isa1 is
    obtain ⟨_, o, h1, h2⟩ := sp.mem f _ hm
    cases h2 with
    | lst h2 => exact ⟨.ref f, _, by rw [is_val i1], Or.inl ⟨_, Or.inl (Or.inl h1), (isa_len h2).symm⟩, po _ _ M S H q (Same.refl S) sp (.d (.int _))⟩
/-- a datum's type -/
def tyD : PyData → String
  | .none => "NoneType"
  | .bool _ => "bool"
  | .int _ => "int"
  | .str _ => "str"
  | .list _ => "list"
  | .tuple _ => "tuple"
  | .dict _ => "dict"
theorem tyX_tup {H : Hp} {a : Addr} {xs : List V} (h : SqT K H a xs) : TyX K H (.ref a) (.type "tuple") := by
  rcases h with (h | ⟨o, h⟩) | ⟨o, its, nn, h1, h2, _⟩
  · exact .base (.tup h)
  · exact .fTuple h
  · exact .kTuple h1 h2
theorem tyX_lst {H : Hp} {a : Addr} {xs : List V} (h : SqL K H a xs) : TyX K H (.ref a) (.type "list") := by
  rcases h with (h | ⟨o, h⟩) | ⟨o, its, nn, h1, h2, _⟩
  · exact .base (.lst h)
  · exact .base (.frz h)
  · exact .kList h1 h2
theorem dp_ty {S : Hp} {v : V} {d : PyData} (h : Dq K S v d) (nd : tyD d ≠ "dict") (nn : tyD d ≠ "NoneType") : TyX K S v (.type (tyD d)) := by
  cases h with
  | non => exact absurd rfl nn
  | bl b => exact .base (.bl b)
  | int i => exact .base (.int i)
  | str x => exact .base (.str x)
  | lst h1 _ => exact tyX_lst h1
  | tup h1 _ _ => exact tyX_tup h1
  | tup0 h1 _ => exact .fTuple h1
theorem ca_isi {t : String} {bb : Bool} (e : PySem.W.kitOne X.K (.type (tyD d)) (.type t) = some bb) (q : k (.d (.bool bb)) M) (nd : tyD d ≠ "dict" := by decide) (nn : tyD d ≠ "NoneType" := by decide) : CaK X (.builtin "isinstance") [.d d, .v (.ty t)] M k :=
  ca_of call_isi fun S H xs Q sp is po => by
    obtain ⟨v, v2, rfl, i1, i2⟩ := isa2 is
    rw [is_val i2]
    cases i1 with
    | d i1 => exact ⟨v, .ty t, _, _, bb, rfl, .ty t, dp_ty (dp_mono sp.sub _ _ i1) nd nn, e, po _ _ M S H q (Same.refl S) sp (.d (.bl _))⟩
theorem ca_isiL {t : String} {bb : Bool} {zs : List Sy} (e : PySem.W.kitOne X.K (.type "list") (.type t) = some bb) (q : k (.d (.bool bb)) M) : CaK X (.builtin "isinstance") [.sl zs, .v (.ty t)] M k :=
  ca_of call_isi fun S H xs Q sp is po => by
    obtain ⟨v, v2, rfl, i1, i2⟩ := isa2 is
    rw [is_val i2]
    cases i1 with
    | sl h1 h2 => exact ⟨_, .ty t, _, _, bb, rfl, .ty t, .base (.lst (sp.sub _ _ h1)), e, po _ _ M S H q (Same.refl S) sp (.d (.bl _))⟩
theorem ca_all {bs : List Bool} (C : Cxi X P w K mg base n) (q : k (.d (.bool (bs.all id))) M) : CaK X (.builtin "all") [.sl (bs.map fun b => .d (.bool b))] M k :=
  ca_of (cr_all C.calm) fun S H xs Q sp is po => by
    obtain ⟨v, rfl, i1⟩ := isa1 is
    cases i1 with
    | sl h1 h2 =>
      have e : ∀ {bs : List Bool} {xs : List V}, IsA X.K S xs (bs.map fun b => Sy.d (.bool b)) → xs = bs.map V.bl := by
        intro bs
        induction bs with
        | nil => intro xs h; cases h; rfl
        | cons b bs ih =>
          intro xs h
          have h' : IsA X.K S xs (Sy.d (.bool b) :: bs.map fun b => Sy.d (.bool b)) := h
          cases h' with
          | cons h1 h2 => rw [is_bool h1, ih h2, List.map_cons]
      have e2 := e h2
      subst e2
      exact ⟨_, bs, rfl, .inl (.inl (sp.sub _ _ h1)), po _ _ M S H q (Same.refl S) sp (.d (.bl _))⟩
theorem ca_sum0 (C : Cxi X P w K mg base n) (q : k (.d (.int 0)) M) : CaK X (.builtin "sum") [.sl []] M k :=
  ca_of (cr_sum C.calm) fun S H xs Q sp is po => by
    obtain ⟨v, rfl, i1⟩ := isa1 is
    cases i1 with
    | sl h1 h2 =>
      cases h2
      exact ⟨_, [], rfl, .inl (.inl (sp.sub _ _ h1)), po _ _ M S H q (Same.refl S) sp (.d (.int _))⟩
theorem ca_max {i j : Int} (C : Cxi X P w K mg base n) (q : k (.d (.int (if j > i then j else i))) M) : CaK X (.builtin "max") [.d (.int i), .d (.int j)] M k :=
  ca_of (call_max2 C.calm) fun S H xs Q sp is po => by
    obtain ⟨v, v2, rfl, i1, i2⟩ := isa2 is
    exact ⟨i, j, by rw [is_int i1, is_int i2], po _ _ M S H q (Same.refl S) sp (.d (.int _))⟩
theorem ca_intB {bb : Bool} (q : k (.d (.int (if bb then 1 else 0))) M) : CaK X (.type "int") [.d (.bool bb)] M k :=
  ca_of call_int1 fun S H xs Q sp is po => by
    obtain ⟨v, rfl, i1⟩ := isa1 is
    exact .inr ⟨bb, by rw [is_bool i1], po _ _ M S H q (Same.refl S) sp (.d (.int _))⟩
/-- tuple(a list) -/
theorem ca_tupM {f : Addr} (hne : ds ≠ []) (hm : M f = some (.lst (ds.map Sy.d))) (q : k (.d (.tuple ds)) M) : CaK X (.type "tuple") [.v (.ref f)] M k :=
  ca_of call_tuple_of fun S H xs Q sp is po => by
    obtain ⟨v, rfl, i1⟩ := isa1 is
    obtain ⟨_, o, h1, h2⟩ := sp.mem f _ hm
    cases h2 with
    | lst h2 =>
      refine ⟨f, _, by rw [is_val i1], .inl ⟨.inl (.inl h1), fun l hl => ?_⟩⟩
      have n1 := sp.freeS hl
      exact po _ _ M (upd S l _) _ q (same_new n1) (sp.put hl) (.d (.tup (.inl (.inl upd_same)) (dpa_mono (same_new n1) _ _ (isa_dpa h2)) hne))
theorem ca_tupL (hne : ds ≠ []) (q : k (.d (.tuple ds)) M) : CaK X (.type "tuple") [.sl (ds.map Sy.d)] M k :=
  ca_of call_tuple_of fun S H xs Q sp is po => by
    obtain ⟨v, rfl, i1⟩ := isa1 is
    cases i1 with
    | sl h1 h2 =>
      refine ⟨_, _, rfl, .inl ⟨.inl (.inl (sp.sub _ _ h1)), fun l hl => ?_⟩⟩
      have n1 := sp.freeS hl
      exact po _ _ M (upd S l _) _ q (same_new n1) (sp.put hl) (.d (.tup (.inl (.inl upd_same)) (dpa_mono (same_new n1) _ _ (isa_dpa h2)) hne))
/-- list(a list) -/
theorem ca_listL {zs : List Sy} (q : k (.sl zs) M) : CaK X (.type "list") [.sl zs] M k :=
  ca_of call_list_of fun S H xs Q sp is po => by
    obtain ⟨v, rfl, i1⟩ := isa1 is
    cases i1 with
    | sl h1 h2 =>
      refine ⟨_, _, rfl, .inl (.inl (.inl (sp.sub _ _ h1))), fun l hl => ?_⟩
      have n1 := sp.freeS hl
      exact po _ _ M (upd S l _) _ q (same_new n1) (sp.put hl) (.sl upd_same (isa_mono (same_new n1) _ _ h2))
end
end Sx
namespace Sx
open PySem PySem.Spec PyProof.Rows L2

/-- a slice's part -/
def semP (X : Cx) (e : Option Expr) : L2.TO := fun σ H Q => ∀ (pins : List (Addr × Obj)) (s : Shared), Inv X pins σ H s → wpAny (model X.prog X.w) X.A (evalPart e X.env) (fun u s' => ∃ o H', Inv X pins σ H' s' ∧ IsPart u o ∧ Q o H') X.xe s
theorem sP {X : Cx} {e : Option Expr} : PO X e (semP X e) := ⟨fun pins s σ H Q I h => h pins s I⟩
def EpK (X : Cx) (G : Ga) (M : Mem) (e : Option Expr) (k : Option Int → Mem → Prop) : Prop := ∀ (σ : L2.St) (S H : Hp) (Q : Option Int → Hp → Prop), Sat X.K G σ S → Split X.K S M H → (∀ (o : Option Int) (M' : Mem) (S' H' : Hp), k o M' → Same S S' → Split X.K S' M' H' → Q o H') → semP X e σ H Q
def SlK (X : Cx) (y : Sy) (lo hi : Option Int) (M : Mem) (k : Sy → Mem → Prop) : Prop := ∀ (S H : Hp) (x : V) (Q : VK), Split X.K S M H → Is X.K S x y → Post X.K S k Q → semL X x lo hi H Q
def cutY {A : Type} (xs : List A) (lo hi : Option Int) : List A := (xs.drop (HT.sIx xs.length 0 lo)).take (HT.sIx xs.length xs.length hi - HT.sIx xs.length 0 lo)
theorem isa_drop {K : PySem.W.Frag} {S : Hp} : ∀ {xs : List V} {ys : List Sy} (n : Nat), IsA K S xs ys → IsA K S (xs.drop n) (ys.drop n)
  | _, _, 0, h => h
  | _, _, _ + 1, .nil => .nil
  | _, _, n + 1, .cons _ h => isa_drop n h
theorem isa_take {K : PySem.W.Frag} {S : Hp} : ∀ {xs : List V} {ys : List Sy} (n : Nat), IsA K S xs ys → IsA K S (xs.take n) (ys.take n)
  | _, _, 0, _ => .nil
  | _, _, _ + 1, .nil => .nil
  | _, _, n + 1, .cons h1 h => .cons h1 (isa_take n h)
theorem isa_cut {K : PySem.W.Frag} {S : Hp} {xs : List V} {ys : List Sy} {lo hi : Option Int} (h : IsA K S xs ys) : IsA K S (cutV xs lo hi) (cutY ys lo hi) := by
  unfold cutV cutY
  rw [isa_len h]
  exact isa_take _ (isa_drop _ h)
theorem cutY_map {A B : Type} {f : A → B} {xs : List A} {lo hi : Option Int} : cutY (xs.map f) lo hi = (cutY xs lo hi).map f := by
  unfold cutY
  rw [List.length_map, ← List.map_drop, ← List.map_take]
theorem isa_last {K : PySem.W.Frag} {S : Hp} {xs : List V} {ys : List Sy} {z : Sy} (h : IsA K S xs (ys ++ [z])) : ∃ v, xs[xs.length - 1]? = some v ∧ Is K S v z ∧ IsA K S xs.dropLast ys := by
  have hl := isa_len h
  rw [List.length_append, List.length_singleton] at hl
  obtain ⟨v, h1, h2⟩ := isa_get (i := ys.length) (y := z) h (by simp)
  refine ⟨v, by rw [hl, Nat.add_sub_cancel]; exact h1, h2, ?_⟩
  have h3 := isa_take ys.length h
  rw [List.take_left'] at h3
  · rw [List.dropLast_eq_take, hl, Nat.add_sub_cancel]
    exact h3
  · rfl

section
variable {X : Cx} {P : Program} {w : World} {K : PySem.W.Frag} {mg : Str → Option Value} {base : Heap} {n j : Nat} {G : Ga} {M : Mem} {k : Sy → Mem → Prop} {kb : Bool → Mem → Prop} {ka : List Sy → Mem → Prop}
variable {a b c e o : Expr} {es rest : List Expr} {x m : Str} {p p2 p3 pos apos cpos : Pos} {i : Nat} {y z : Sy} {T : Tr} {f : Addr} {ds : List PyData} {d : PyData} {ys zs : List Sy}

/-! ### slices -/
theorem ep_none {kp : Option Int → Mem → Prop} (q : kp none M) : EpK X G M none kp := fun σ S H Q sa sp po pins s I => (po_none (X := X)).run pins s σ H Q I (po none M S H q (Same.refl S) sp)
theorem ep_some {kp : Option Int → Mem → Prop} (h : EvK X G M e fun y M1 => ∃ i, y = .d (.int i) ∧ kp (some i) M1) : EpK X G M (some e) kp := fun σ S H Q sa sp po pins s I =>
  (po_some (X := X) sE).run pins s σ H Q I (h.go sa sp fun v y M1 S1 H1 ⟨i, ey, h1⟩ e1 sa1 sp1 is1 => by
    subst ey
    exact ⟨i, is_int is1, po (some i) M1 S1 H1 h1 e1 sp1⟩)
theorem EpK.go {kp : Option Int → Mem → Prop} {eo : Option Expr} (h : EpK X G M eo kp) {σ : L2.St} {S H : Hp} {Q : Option Int → Hp → Prop} (sa : Sat X.K G σ S) (sp : Split X.K S M H) (q : ∀ (v : Option Int) (M' : Mem) (S' H' : Hp), kp v M' → Same S S' → Sat X.K G σ S' → Split X.K S' M' H' → Q v H') : semP X eo σ H Q :=
  h σ S H Q sa sp fun v M' S' H' hk es sp' => q v M' S' H' hk es (sa.mono es) sp'
theorem ev_slice {lo hi : Option Expr} (h : EvK X G M a fun y M1 => EpK X G M1 lo fun l M2 => EpK X G M2 hi fun u M3 => SlK X y l u M3 k) : EvK X G M (.Subscript a (.Slice lo hi none p2) pos) k :=
  ev_of (pe_slice sL sE sP sP) fun σ S H Q sa sp po => h.go sa sp fun v y1 M1 S1 H1 h1 e1 sa1 sp1 is1 => h1.go sa1 sp1 fun l M2 S2 H2 h2 e2 sa2 sp2 => h2.go sa2 sp2 fun u M3 S3 H3 h3 e3 sa3 sp3 =>
    h3 S3 H3 v Q sp3 (is_mono (e2.trans e3) _ _ is1) (po.later ((e1.trans e2).trans e3))
theorem sk_of {r : V → Option Int → Option Int → Hp → VK → Prop} {lo hi : Option Int} (h : SlR X r) (q : ∀ (S H : Hp) (x : V) (Q : VK), Split X.K S M H → Is X.K S x y → Post X.K S k Q → r x lo hi H Q) : SlK X y lo hi M k :=
  fun S H x Q sp i1 po pins s σ v vl vu sl I rx hs pl pu => h pins s σ H x v vl vu lo hi sl Q I rx hs pl pu (q S H x Q sp i1 po)
theorem sk_tup {lo hi : Option Int} (hw : ¬ (HT.sIx ds.length 0 lo = 0 ∧ HT.sIx ds.length ds.length hi = ds.length)) (hne : cutY ds lo hi ≠ []) (q : k (.d (.tuple (cutY ds lo hi))) M) : SlK X (.d (.tuple ds)) lo hi M k :=
  sk_of sl_tup fun S H x Q sp i1 po => by
    obtain ⟨a, xs, rfl, h1, h2⟩ := is_tup i1
    refine ⟨a, xs, rfl, same_sqT sp.sub h1, by rw [dpa_len h2]; exact hw, fun l hl => ?_⟩
    have n1 := sp.freeS hl
    have h3 := isa_cut (lo := lo) (hi := hi) (dpa_isa h2)
    rw [cutY_map] at h3
    exact po _ _ M (upd S l _) _ q (same_new n1) (sp.put hl) (.d (.tup (.inl (.inl upd_same)) (dpa_mono (same_new n1) _ _ (isa_dpa h3)) hne))
theorem sk_sl {lo hi : Option Int} (q : k (.sl (cutY ys lo hi)) M) : SlK X (.sl ys) lo hi M k :=
  sk_of sl_list fun S H x Q sp i1 po => by
    cases i1 with
    | sl h1 h2 =>
      refine ⟨_, _, rfl, .inl (.inl (sp.sub _ _ h1)), fun l hl => ?_⟩
      have n1 := sp.freeS hl
      exact po _ _ M (upd S l _) _ q (same_new n1) (sp.put hl) (.sl upd_same (isa_mono (same_new n1) _ _ (isa_cut h2)))
theorem sk_mem {lo hi : Option Int} (hm : M f = some (.lst ys)) (q : k (.sl (cutY ys lo hi)) M) : SlK X (.v (.ref f)) lo hi M k :=
  sk_of sl_list fun S H x Q sp i1 po => by
    obtain ⟨_, o, h1, h2⟩ := sp.mem f _ hm
    cases h2 with
    | lst h2 =>
      refine ⟨f, _, is_val i1, .inl (.inl h1), fun l hl => ?_⟩
      have n1 := sp.freeS hl
      exact po _ _ M (upd S l _) _ q (same_new n1) (sp.put hl) (.sl upd_same (isa_mono (same_new n1) _ _ (isa_cut h2)))
/-- a list of data (the script) -/
theorem sk_dl {lo hi : Option Int} (q : k (.sl ((cutY ds lo hi).map Sy.d)) M) : SlK X (.d (.list ds)) lo hi M k :=
  sk_of sl_list fun S H x Q sp i1 po => by
    cases i1 with
    | d i1 =>
      cases i1 with
      | lst h1 h2 =>
        refine ⟨_, _, rfl, Same.seq sp.sub h1, fun l hl => ?_⟩
        have n1 := sp.freeS hl
        have h3 := isa_cut (lo := lo) (hi := hi) (dpa_isa h2)
        rw [cutY_map] at h3
        exact po _ _ M (upd S l _) _ q (same_new n1) (sp.put hl) (.sl upd_same (isa_mono (same_new n1) _ _ h3))
theorem ca_lenD (q : k (.d (.int (ds.length : Nat))) M) : CaK X (.builtin "len") [.d (.list ds)] M k :=
  ca_of call_len fun S H xs Q sp is po => by
    obtain ⟨v, rfl, i1⟩ := isa1 is
    cases i1 with
    | d i1 =>
      cases i1 with
      | lst h1 h2 => exact ⟨_, _, rfl, Or.inl ⟨_, Same.seq sp.sub h1, (dpa_len h2).symm⟩, po _ _ M S H q (Same.refl S) sp (.d (.int _))⟩

/-! ### lists: +, *, methods -/
theorem ok_cat (hl : ys.length + zs.length ≤ 100000) (q : k (.sl (ys ++ zs)) M) : OpK X (binaryOp .Add) (.sl ys) (.sl zs) M k :=
  ok_of op_cat fun S H x1 x2 Q sp i1 i2 po => by
    cases i1 with
    | sl h1 h2 =>
      cases i2 with
      | sl h3 h4 =>
        refine ⟨_, _, _, _, rfl, rfl, sp.sub _ _ h1, sp.sub _ _ h3, by rw [isa_len h2, isa_len h4]; exact Nat.le_trans hl (by decide), fun l hl => ?_⟩
        have n1 := sp.freeS hl
        exact po _ _ M (upd S l _) _ q (same_new n1) (sp.put hl) (.sl upd_same (isa_mono (same_new n1) _ _ (isa_append h2 h4)))
theorem isa_rep {S : Hp} {xs : List V} (h : IsA K S xs ys) : ∀ i : Nat, IsA K S (List.replicate i xs).flatten (List.replicate i ys).flatten
  | 0 => .nil
  | i + 1 => by
    rw [List.replicate_succ, List.replicate_succ, List.flatten_cons, List.flatten_cons]
    exact isa_append h (isa_rep h i)
theorem ok_rep {i : Int} (h0 : 0 ≤ i) (h1 : i ≤ 1000) (hl : ys.length * i.toNat ≤ 100000) (q : k (.sl (List.replicate i.toNat ys).flatten) M) : OpK X (binaryOp .Mult) (.sl ys) (.d (.int i)) M k :=
  ok_of op_rep fun S H x1 x2 Q sp i1 i2 po => by
    cases i1 with
    | sl h2 h3 =>
      refine ⟨_, i, _, rfl, is_int i2, sp.sub _ _ h2, by omega, by omega, by rw [isa_len h3]; exact Nat.le_trans hl (by decide), fun l hl => ?_⟩
      have n1 := sp.freeS hl
      exact po _ _ M (upd S l _) _ q (same_new n1) (sp.put hl) (.sl upd_same (isa_mono (same_new n1) _ _ (isa_rep h3 _)))
/-- xs.append(e) -/
theorem ev_append (h : EvK X G M o fun y M1 => ∃ (f : Addr) (ys0 : List Sy), y = .v (.ref f) ∧ M1 f = some (.lst ys0) ∧ EvK X G M1 e fun z M2 => ∃ ys, M2 f = some (.lst ys) ∧ ys.length ≤ 100000 ∧ k (.d .none) (updM M2 f (.lst (ys ++ [z]))))
    (hbase : attributeBase o "append" X.env (eval o X.env) = eval o X.env := by rfl)
    (hfew : ((backTo cpos (starEach [e] X.env)).all (fun x => !x.1) && (backToKw cpos (keywordEach [] X.env)).all (fun x => x.1.isSome)
      && decide (([e] : List Expr).length + ([] : List Keyword).length + (if ([] : List Keyword).isEmpty then 0 else 1) < 30)) = true := by rfl)
    (hline : (apos.endLine == cpos.line) = true := by rfl) (hs : starEach [e] X.env = (false, eval e X.env) :: starEach [] X.env := by rfl) (hplain : (backTo cpos (starEach [] X.env)).any (·.1) = false := by rfl) : EvK X G M (.Call (.Attribute o "append" apos) [e] [] cpos) k :=
  ev_of (pe_bm PySem.F.plainAttrs_list PySem.F.slot_list_append PySem.F.type_list_append mt_append sE (pa_cons sE pa_nil hs) hbase hfew hline hs hplain) fun σ S H Q sa sp po => h.go sa sp fun v y1 M1 S1 H1 ⟨f, ys0, ey, hm, h1⟩ e1 sa1 sp1 is1 => by
    subst ey
    obtain ⟨_, o1, g1, g2⟩ := sp1.mem f _ hm
    cases g2 with
    | lst g2 =>
      have ev := is_val is1
      subst ev
      refine ⟨.inl ⟨rfl, _, .inl (.inl g1)⟩, EvK.go h1 sa1 sp1 fun u z M2 S2 H2 ⟨ys, hm2, hl, h2⟩ e2 sa2 sp2 is2 => ?_⟩
      obtain ⟨_, o2, g3, g4⟩ := sp2.mem f _ hm2
      cases g4 with
      | lst g4 =>
        refine ⟨f, _, u, rfl, rfl, g3, by rw [isa_len g4]; exact Nat.lt_of_le_of_lt hl (by decide), ?_⟩
        exact po _ _ _ S2 _ h2 (e1.trans e2) (sp2.set hm2 (.lst (isa_append g4 (.cons is2 .nil)))) (.d .non)
/-- xs.pop() -/
theorem ev_pop (h : EvK X G M o fun y M1 => ∃ (f : Addr) (ys : List Sy) (z : Sy), y = .v (.ref f) ∧ M1 f = some (.lst (ys ++ [z])) ∧ k z (updM M1 f (.lst ys)))
    (hbase : attributeBase o "pop" X.env (eval o X.env) = eval o X.env := by rfl) (hline : (apos.endLine == cpos.line) = true := by rfl) : EvK X G M (.Call (.Attribute o "pop" apos) [] [] cpos) k :=
  ev_of (pe_bm0 PySem.F.plainAttrs_list PySem.F.slot_list_pop PySem.F.type_list_pop mt_pop sE hbase hline) fun σ S H Q sa sp po => h.go sa sp fun v y1 M1 S1 H1 ⟨f, ys, z, ey, hm, h1⟩ e1 sa1 sp1 is1 => by
    subst ey
    obtain ⟨_, o1, g1, g2⟩ := sp1.mem f _ hm
    cases g2 with
    | lst g2 =>
      have ev := is_val is1
      subst ev
      obtain ⟨u, q1, q2, q3⟩ := isa_last g2
      refine ⟨.inl ⟨rfl, _, .inl (.inl g1)⟩, f, _, u, rfl, rfl, g1, q1, ?_⟩
      exact po _ _ _ S1 _ h1 e1 (sp1.set hm (.lst q3)) q2
/-- xs.extend(a list) -/
theorem ev_extend (h : EvK X G M o fun y M1 => ∃ (f : Addr) (ys0 : List Sy), y = .v (.ref f) ∧ M1 f = some (.lst ys0) ∧ EvK X G M1 e fun z M2 => ∃ ys zs, z = .sl zs ∧ M2 f = some (.lst ys) ∧ ys.length + zs.length ≤ 100000 ∧ k (.d .none) (updM M2 f (.lst (ys ++ zs))))
    (hbase : attributeBase o "extend" X.env (eval o X.env) = eval o X.env := by rfl)
    (hfew : ((backTo cpos (starEach [e] X.env)).all (fun x => !x.1) && (backToKw cpos (keywordEach [] X.env)).all (fun x => x.1.isSome)
      && decide (([e] : List Expr).length + ([] : List Keyword).length + (if ([] : List Keyword).isEmpty then 0 else 1) < 30)) = true := by rfl)
    (hline : (apos.endLine == cpos.line) = true := by rfl) (hs : starEach [e] X.env = (false, eval e X.env) :: starEach [] X.env := by rfl) (hplain : (backTo cpos (starEach [] X.env)).any (·.1) = false := by rfl) : EvK X G M (.Call (.Attribute o "extend" apos) [e] [] cpos) k :=
  ev_of (pe_bm PySem.F.plainAttrs_list PySem.F.slot_list_extend PySem.F.type_list_extend mt_extend sE (pa_cons sE pa_nil hs) hbase hfew hline hs hplain) fun σ S H Q sa sp po => h.go sa sp fun v y1 M1 S1 H1 ⟨f, ys0, ey, hm, h1⟩ e1 sa1 sp1 is1 => by
    subst ey
    obtain ⟨_, o1, g1, g2⟩ := sp1.mem f _ hm
    cases g2 with
    | lst g2 =>
      have ev := is_val is1
      subst ev
      refine ⟨.inl ⟨rfl, _, .inl (.inl g1)⟩, EvK.go h1 sa1 sp1 fun u z M2 S2 H2 ⟨ys, zs, ez, hm2, hl, h2⟩ e2 sa2 sp2 is2 => ?_⟩
      subst ez
      obtain ⟨_, o2, g3, g4⟩ := sp2.mem f _ hm2
      cases g4 with
      | lst g4 =>
        cases is2 with
        | sl i1 i2 =>
          refine ⟨f, _, _, _, rfl, rfl, g3, sp2.sub _ _ i1, by rw [isa_len g4, isa_len i2]; exact Nat.le_trans hl (by decide), ?_⟩
          exact po _ _ _ S2 _ h2 (e1.trans e2) (sp2.set hm2 (.lst (isa_append g4 i2))) (.d .non)
/-- xs.insert(i, e) -/
theorem ev_insert {e2 : Expr} {ix : Int} {ipos : Pos} {kk : Nat} (h : EvK X G M o fun y M1 => ∃ (f : Addr) (ys0 : List Sy), y = .v (.ref f) ∧ M1 f = some (.lst ys0) ∧ EvK X G M1 e2 fun z M2 => ∃ ys, M2 f = some (.lst ys) ∧ ys.length ≤ 100000 ∧ k (.d .none) (updM M2 f (.lst (ys.take ix.toNat ++ [z] ++ ys.drop ix.toNat))))
    (h0 : 0 ≤ ix ∧ ix < 2 ^ 63)
    (hbase : attributeBase o "insert" X.env (eval o X.env) = eval o X.env := by rfl)
    (hfew : ((backTo cpos (starEach [.Constant (.int ix) kk ipos, e2] X.env)).all (fun x => !x.1) && (backToKw cpos (keywordEach [] X.env)).all (fun x => x.1.isSome)
      && decide (([.Constant (.int ix) kk ipos, e2] : List Expr).length + ([] : List Keyword).length + (if ([] : List Keyword).isEmpty then 0 else 1) < 30)) = true := by rfl)
    (hline : (apos.endLine == cpos.line) = true := by rfl) (hs : starEach [.Constant (.int ix) kk ipos, e2] X.env = (false, eval (.Constant (.int ix) kk ipos) X.env) :: starEach [e2] X.env := by rfl)
    (hs2 : starEach [e2] X.env = (false, eval e2 X.env) :: starEach [] X.env := by rfl) (hplain : (backTo cpos (starEach [e2] X.env)).any (·.1) = false := by rfl) : EvK X G M (.Call (.Attribute o "insert" apos) [.Constant (.int ix) kk ipos, e2] [] cpos) k :=
  ev_of (pe_bm PySem.F.plainAttrs_list PySem.F.slot_list_insert PySem.F.type_list_insert mt_insert sE (pa_cons pe_int (pa_cons sE pa_nil hs2) hs) hbase hfew hline hs hplain) fun σ S H Q sa sp po => h.go sa sp fun v y1 M1 S1 H1 ⟨f, ys0, ey, hm, h1⟩ e1 sa1 sp1 is1 => by
    subst ey
    obtain ⟨_, o1, g1, g2⟩ := sp1.mem f _ hm
    cases g2 with
    | lst g2 =>
      have ev := is_val is1
      subst ev
      refine ⟨.inl ⟨rfl, _, .inl (.inl g1)⟩, EvK.go h1 sa1 sp1 fun u z M2 S2 H2 ⟨ys, hm2, hl, h2⟩ e2 sa2 sp2 is2 => ?_⟩
      obtain ⟨_, o2, g3, g4⟩ := sp2.mem f _ hm2
      cases g4 with
      | lst g4 =>
        refine ⟨f, _, ix, u, rfl, rfl, g3, by rw [isa_len g4]; exact Nat.lt_of_le_of_lt hl (by decide), h0.1, h0.2, ?_⟩
        exact po _ _ _ S2 _ h2 (e1.trans e2) (sp2.set hm2 (.lst (isa_append (isa_append (isa_take _ g4) (.cons is2 .nil)) (isa_drop _ g4)))) (.d .non)

/-! ### dicts -/
theorem ev_dnew (q : k (.dk 0 fun _ => none) M) : EvK X G M (.Dict [] [] pos) k :=
  ev_of pe_dnewK fun σ S H Q sa sp po p hp => po _ _ M (upd S p (.dK [])) _ q (same_new (sp.freeS hp)) (sp.put hp) (.dk upd_same (Nat.le_refl _) fun _ => True.intro)
theorem ev_dnewT (q : ∀ a, M a = none → k (.v (.ref a)) (updM M a (.dT 0 fun _ => none))) : EvK X G M (.Dict [] [] pos) k :=
  ev_of pe_dnewT fun σ S H Q sa sp po p hp => po _ _ _ S _ (q p (sp.freeM hp)) (Same.refl S) (sp.lay hp (.dT (Nat.le_refl _) fun _ => True.intro)) .v
theorem ca_dictD {nn : Nat} {mm : Key → Option PyData} (q : ∀ a, M a = none → k (.v (.ref a)) (updM M a (.dK nn mm))) : CaK X (.type "dict") [.dk nn mm] M k :=
  ca_of call_dictD fun S H xs Q sp is po => by
    obtain ⟨v, rfl, i1⟩ := isa1 is
    cases i1 with
    | dk h1 h2 h3 => exact ⟨_, _, rfl, .inl (sp.sub _ _ h1), fun l hl => po _ _ _ S _ (q l (sp.freeM hl)) (Same.refl S) (sp.lay hl (.dK h2 h3)) .v⟩
/-- list of an empty dict -/
theorem ca_listD0 {mm : Key → Option PyData} (C : Cxi X P w K mg base n) (q : k (.sl []) M) : CaK X (.type "list") [.dk 0 mm] M k :=
  ca_of (call_listD C.calm) fun S H xs Q sp is po => by
    obtain ⟨v, rfl, i1⟩ := isa1 is
    cases i1 with
    | @dk a kvs _ _ h1 h2 h3 =>
      cases kvs with
      | nil =>
        refine ⟨_, _, rfl, .inl (sp.sub _ _ h1), fun l hl => ?_⟩
        exact po _ _ M (upd S l (.lst [])) _ q (same_new (sp.freeS hl)) (sp.put hl) (.sl upd_same .nil)
      | cons _ _ => simp at h2
def putM {A : Type} [DecidableEq A] (m : A → Option PyData) (q : A) (d : PyData) : A → Option PyData := fun q' => if q' = q then some d else m q'
theorem dm_put {S : Hp} {A : Type} [DecidableEq A] {kvs : List (A × V)} {m : A → Option PyData} {q : A} {v : V} {d : PyData} (h : ∀ q, DM K S (valV kvs q) (m q)) (hd : Dq K S v d) : ∀ q', DM K S (valV (putK kvs q v) q') (putM m q d q') := fun q' => by
  rw [valV_put]
  unfold putM
  by_cases e : q' = q
  · rw [if_pos e, if_pos e]
    exact hd
  · rw [if_neg e, if_neg e]
    exact h q'
/-- a key of ints and texts as data -/
def kD : Key → PyData
  | .inl i => .int i
  | .inr x => .str x
theorem dp_key {S : Hp} {v : V} {q : Key} (h : Dq K S v (kD q)) : v = kV q := by
  cases q <;> (cases h; rfl)
theorem dpa_keys {S : Hp} : ∀ {qs : List Key} {xs : List V}, DqAll K S xs (qs.map kD) → xs = qs.map kV
  | [], _, h => by
    have h' : DqAll K S _ [] := h
    cases h'
    rfl
  | q :: qs, _, h => by
    have h' : DqAll K S _ (kD q :: qs.map kD) := h
    cases h' with
    | cons h1 h2 => rw [dp_key h1, dpa_keys h2, List.map_cons]
/-- d[k], the key a written tuple, the dict in the memory -/
theorem ev_dgetT {x1 : Nat} (C : Cxi X P w K mg base n) (h : EvK X G M o fun y M1 => ∃ f, y = .v (.ref f) ∧ EdK X G M1 es fun ds M2 => ∃ (qs : List Key) (nn : Nat) (mm : List Key → Option PyData) (d : PyData), ds = qs.map kD ∧ ds.length ≤ 1000 ∧ M2 f = some (.dT nn mm) ∧ mm qs = some d ∧ k (.d d) M2) (hs : NoSl (.Tuple es x1 p) := by exact fun _ _ => rfl) :
    EvK X G M (.Subscript o (.Tuple es x1 p) pos) k :=
  ev_of (pe_dget (hu_of C.room) sE (pe_tup sA) hs) fun σ S H Q sa sp po => h.go sa sp fun v y1 M1 S1 H1 ⟨f, ey, h1⟩ e1 sa1 sp1 is1 => EaK.go h1 sa1 sp1 fun vs ys M2 S2 H2 ⟨ds, hy, qs, nn, mm, d, hq, hl, hm, hd, h2⟩ e2 sa2 sp2 is2 => by
    subst ey hy hq
    have ld := dpa_len (isa_dpa is2)
    refine ⟨Nat.le_of_lt (small1000 (by omega)), fun p hp => ?_⟩
    obtain ⟨_, o1, g1, g2⟩ := sp2.mem f _ hm
    have n1 := sp2.freeS hp
    have ev := is_val is1
    subst ev
    cases g2 with
    | @dT kvs _ _ g2 g3 =>
      have z := g3 qs
      rw [hd] at z
      cases e3 : valV kvs qs with
      | none => rw [e3] at z; exact z.elim
      | some u =>
        rw [e3] at z
        refine ⟨f, u, rfl, ?_, po _ _ M2 (upd S2 p (.tup vs)) _ h2 ((e1.trans e2).trans (same_new n1)) (sp2.put hp) (.d (dp_mono (same_new n1) _ _ z))⟩
        rw [← e3]
        exact .inr ⟨kvs, qs, p, .inl (by rw [upd_ne (ne_of_none g1 hp)]; exact g1), rfl, by rw [upd_same, dpa_keys (isa_dpa is2)], rfl⟩
end
end Sx
namespace Sx
open PySem PySem.Spec PyProof.Rows L2

section
variable {X : Cx} {P : Program} {w : World} {K : PySem.W.Frag} {mg : Str → Option Value} {base : Heap} {n j : Nat} {G : Ga} {M : Mem} {k : Sy → Mem → Prop} {kb : Bool → Mem → Prop} {ka : List Sy → Mem → Prop}
variable {a b c e o : Expr} {es : List Expr} {rest body : List Stmt} {x m : Str} {p p2 p3 pos apos cpos : Pos} {i : Nat} {y z : Sy} {T : Tr} {f : Addr} {ds : List PyData} {d : PyData} {ys zs : List Sy} {D : Tends} {st : Stmt}

/-! ### statements -/
theorem ex_of {t : TS} (h : PS X st t) (q : ∀ (σ : L2.St) (S H : Hp) (E : Ends), Sat X.K G σ S → Split X.K S M H → PostS X.K S D E → t { E with nx := semS X rest E } σ H) : ExK X G M (st :: rest) D :=
  fun σ S H E sa sp po pins s I => (pss_cons h sS).run pins s σ H E I (q σ S H E sa sp po)
theorem ExK.go {sts : List Stmt} (h : ExK X G M sts D) {σ : L2.St} {S H : Hp} {E : Ends} (sa : Sat X.K G σ S) (sp : Split X.K S M H) (po : PostS X.K S D E) : semS X sts E σ H := h σ S H E sa sp po
theorem ex_nil (q : D.nx G M) : ExK X G M [] D := fun σ S H E sa sp po pins s I => (pss_nil (X := X)).run pins s σ H E I (po.nx G σ M S H q (Same.refl S) sa sp)
theorem ex_set (nd : X.N.Nodup) (s : Slot X i x) (h : EvK X G M e fun y M1 => ExK X (G.set i (some y)) M1 rest D) (hs : swapsWith e (some (.Name x p)) pos.line X.env = pure false := by rfl) : ExK X G M (.Assign [.Name x p] e pos :: rest) D :=
  ex_of (ps_set nd s.n s.loc sE hs s.fn) fun σ S H E sa sp po => h.go sa sp fun v y M1 S1 H1 h1 e1 sa1 sp1 is1 => h1.go (sa1.set is1) sp1 (po.later e1)
/-- x, y, .. = a tuple -/
theorem ex_unpack {is : List Nat} {x1 : Nat} (C : Cxi X P w K mg base n) (t : Tgs X es is) (h : EvK X G M e fun y M1 => ∃ ds, y = .d (.tuple ds) ∧ ds.length = is.length ∧ ExK X (setAll G is (ds.map Sy.d)) M1 rest D)
    (hs : swapsWithSole [.Tuple es x1 p] e pos.line X.env = pure false := by rfl) (hw : swappedStores [.Tuple es x1 p] e X.env = pure none := by rfl) : ExK X G M (.Assign [.Tuple es x1 p] e pos :: rest) D :=
  ex_of (ps_asg sE (pg_tup C.calm (pgs_all C.nd t) (tgs_each t).1 (tgs_each t).2) hs hw) fun σ S H E sa sp po => h.go sa sp fun v y M1 S1 H1 ⟨ds, ey, hl, h1⟩ e1 sa1 sp1 is1 => by
    subst ey
    obtain ⟨a, xs, rfl, h2, h3⟩ := is_tup is1
    refine ⟨a, xs, rfl, same_sqT sp1.sub h2, by rw [dpa_len h3, hl], ?_⟩
    exact gAll_go (by rw [List.length_map, hl]) (dpa_isa h3) sa1 fun σ' sa2 => ExK.go h1 sa2 sp1 (po.later e1)
theorem ex_ret (h : EvK X G M e fun y M1 => D.rt y M1) : ExK X G M (.Return (some e) pos :: rest) D :=
  ex_of (ps_ret sE) fun σ S H E sa sp po => h.go sa sp fun v y M1 S1 H1 h1 e1 sa1 sp1 is1 => po.rt v y M1 S1 H1 h1 e1 sp1 is1
theorem ex_retN (h : D.rt (.d .none) M) : ExK X G M (.Return none pos :: rest) D :=
  ex_of ps_retN fun σ S H E sa sp po => po.rt .non _ M S H h (Same.refl S) sp (.d .non)
theorem ex_expr (h : EvK X G M e fun _ M1 => ExK X G M1 rest D) (hs : swapsWith e none pos.line X.env = pure false := by rfl) : ExK X G M (.Expr e pos :: rest) D :=
  ex_of (ps_expr sE hs) fun σ S H E sa sp po => h.go sa sp fun v y M1 S1 H1 h1 e1 sa1 sp1 is1 => h1.go sa1 sp1 (po.later e1)
/-- what goes on behind -/
def Tends.then_ (D : Tends) (X : Cx) (rest : List Stmt) : Tends := { D with nx := fun G' M' => ExK X G' M' rest D }
theorem PostS.then_ {S : Hp} {E : Ends} (po : PostS X.K S D E) : PostS X.K S (D.then_ X rest) { E with nx := semS X rest E } :=
  ⟨fun G' σ' M' S' H' h e1 sa sp => ExK.go h sa sp (po.later e1), po.rt, po.bk, po.ct⟩
theorem ex_if {ta fb : List Stmt} (h : TeK X G M c fun t M1 => if t = true then ExK X G M1 ta (D.then_ X rest) else ExK X G M1 fb (D.then_ X rest)) : ExK X G M (.If c ta fb pos :: rest) D :=
  ex_of (ps_if sT sS sS) fun σ S H E sa sp po => h.go sa sp fun t M1 S1 H1 h1 e1 sa1 sp1 => by
    cases t with
    | true => exact iteT (ExK.go h1 sa1 sp1 (po.later e1).then_)
    | false => exact iteF (ExK.go h1 sa1 sp1 (po.later e1).then_)
theorem ex_next {D2 : Tends} (h : ExK X G M rest D2) : (D2.then_ X rest).nx G M := h
/-- o.f = e -/
theorem ex_fld {f : Str} {pos' : Pos} (C : Cxi X P w K mg base n) (h : EvK X G M e fun z M1 => EvK X G M1 o fun y M2 => ∃ (a D' dx : Addr) (gs : List (Str × Sy)), y = .v (.ref a) ∧ M2 a = some (.ins D' dx gs) ∧ Cls K D' ∧ NoAttr K D' f ∧ gs.length < 1000 ∧ ExK X G (updM M2 a (.ins D' dx (putY f z gs))) rest D)
    (hs : swapsWith e (some (.Attribute o f pos')) pos.line X.env = pure false := by rfl) : ExK X G M (.Assign [.Attribute o f pos'] e pos :: rest) D := by
  obtain ⟨rfl, rfl, rfl, rfl, rfl, nd, cal, room, own⟩ := C
  refine ex_of (ps_fld sE sE hs) fun σ S H E sa sp po => h.go sa sp fun v z M1 S1 H1 h1 e1 sa1 sp1 is1 => h1.go sa1 sp1 fun u y M2 S2 H2 ⟨a, D', dx, gs, ey, hm, hc, hn, hl, h2⟩ e2 sa2 sp2 is2 => ?_
  subst ey
  obtain ⟨_, fs, g1, g2⟩ := mem_ins sp2 hm
  refine ⟨a, D', dx, fs, is_val is2, g1, hc, hn, by rw [pair_len g2]; exact hl, ?_⟩
  exact ExK.go h2 sa2 (sp2.set hm (.ins (pair_put (is_mono e2 _ _ is1) g2))) (po.later (e1.trans e2))
/-- o.f += e, whole numbers -/
theorem ex_fldadd {f : Str} {pos' : Pos} (C : Cxi X P w K mg base n) (h : EvK X G M o fun y M1 => ∃ (a D' dx : Addr) (gs : List (Str × Sy)) (i : Int), y = .v (.ref a) ∧ M1 a = some (.ins D' dx gs) ∧ Cls K D' ∧ NoAttr K D' f ∧ gs.lookup f = some (.d (.int i)) ∧
      EvK X G M1 e fun z M2 => ∃ (l : Int) (dx' : Addr) (gs' : List (Str × Sy)), z = .d (.int l) ∧ M2 a = some (.ins D' dx' gs') ∧ gs'.length < 1000 ∧ ExK X G (updM M2 a (.ins D' dx' (putY f (.d (.int (i + l))) gs'))) rest D) : ExK X G M (.AugAssign (.Attribute o f pos') .Add e pos :: rest) D := by
  obtain ⟨rfl, rfl, rfl, rfl, rfl, nd, cal, room, own⟩ := C
  refine ex_of (ps_fldaug sE sE in_add) fun σ S H E sa sp po => h.go sa sp fun v y M1 S1 H1 ⟨a, D', dx, gs, i, ey, hm, hc, hn, hl, h1⟩ e1 sa1 sp1 is1 => ?_
  subst ey
  obtain ⟨_, fs, g1, g2⟩ := mem_ins sp1 hm
  have q := pair_look (f := f) g2
  rw [hl] at q
  obtain ⟨u, q1, q2⟩ := q
  refine ⟨a, D', dx, fs, u, is_val is1, g1, hc, hn, q1, EvK.go h1 sa1 sp1 fun v2 z M2 S2 H2 ⟨l, dx', gs', ez, hm2, hl2, h2⟩ e2 sa2 sp2 is2 => ?_⟩
  subst ez
  obtain ⟨_, fs', g3, g4⟩ := mem_ins sp2 hm2
  refine ⟨i, l, is_int q2, is_int is2, dx', fs', g3, by rw [pair_len g4]; exact hl2, ?_⟩
  exact ExK.go h2 sa2 (sp2.set hm2 (.ins (pair_put (.d (.int _)) g4))) (po.later (e1.trans e2))
/-- x += e, whole numbers -/
theorem ex_augadd (nd : X.N.Nodup) (s : Slot X i x) {v0 : Int} (hx : G[i]? = some (some (.d (.int v0)))) (h : EvK X G M e fun z M1 => ∃ l : Int, z = .d (.int l) ∧ ExK X (G.set i (some (.d (.int (v0 + l))))) M1 rest D) : ExK X G M (.AugAssign (.Name x p) .Add e pos :: rest) D :=
  ex_of (ps_aug nd s.n s.loc sE ip_add s.fn) fun σ S H E sa sp po => by
    obtain ⟨v, h1, h2⟩ := sa.at_ i _ hx
    refine ⟨v, h1, h.go sa sp fun u z M1 S1 H1 ⟨l, ez, h3⟩ e1 sa1 sp1 is1 => ?_⟩
    subst ez
    refine ⟨v0, l, is_int h2, is_int is1, ?_⟩
    exact ExK.go h3 (sa1.set (.d (.int _))) sp1 (po.later e1)
/-- d[x] = e, the dict in the memory, the key a text -/
theorem ex_dput {pos' : Pos} (C : Cxi X P w K mg base n) (h : EvK X G M e fun z M1 => EvK X G M1 o fun y M2 => EvK X G M2 b fun q M3 => ∃ (f : Addr) (nn : Nat) (mm : Key → Option PyData) (s : Str) (dz : PyData), z = .d dz ∧ y = .v (.ref f) ∧ q = .d (.str s) ∧ M3 f = some (.dK nn mm) ∧ nn ≤ 1000 ∧
      ExK X G (updM M3 f (.dK (nn + 1) (putM mm (Sum.inr s) dz))) rest D) (hs : swapsWith e (some (.Subscript o b pos')) pos.line X.env = pure false := by rfl) : ExK X G M (.Assign [.Subscript o b pos'] e pos :: rest) D :=
  ex_of (ps_dput (hu_of C.room) sE sE sE hs) fun σ S H E sa sp po => h.go sa sp fun v z M1 S1 H1 h1 e1 sa1 sp1 is1 => h1.go sa1 sp1 fun u y M2 S2 H2 h2 e2 sa2 sp2 is2 => h2.go sa2 sp2 fun u2 q M3 S3 H3 ⟨f, nn, mm, s, dz, ez, ey, eq, hm, hl, h3⟩ e3 sa3 sp3 is3 => by
    subst ez ey eq
    have i1 := is_mono (e2.trans e3) _ _ is1
    have ev := is_val is2
    subst ev
    rw [is_str is3]
    obtain ⟨_, o1, g1, g2⟩ := sp3.mem f _ hm
    cases g2 with
    | @dK kvs _ _ g2 g3 =>
      cases i1 with
      | d i1 =>
        refine ⟨f, _, rfl, .inl ⟨kvs, Sum.inr s, g1, rfl, Nat.lt_of_le_of_lt (Nat.le_trans g2 hl) (by decide), rfl⟩, ?_⟩
        exact ExK.go h3 sa3 (sp3.set hm (.dK (Nat.le_trans (length_putK _ _ _) (Nat.succ_le_succ g2)) (dm_put g3 i1))) (po.later ((e1.trans e2).trans e3))
/-- d[(..)] = e, the dict in the memory -/
theorem ex_dputT {pos' : Pos} {x1 : Nat} (C : Cxi X P w K mg base n) (h : EvK X G M e fun z M1 => EvK X G M1 o fun y M2 => EdK X G M2 es fun ds M3 => ∃ (f : Addr) (nn : Nat) (mm : List Key → Option PyData) (qs : List Key) (dz : PyData), z = .d dz ∧ y = .v (.ref f) ∧ ds = qs.map kD ∧ ds.length ≤ 1000 ∧ M3 f = some (.dT nn mm) ∧ nn ≤ 1000 ∧
      ExK X G (updM M3 f (.dT (nn + 1) (putM mm qs dz))) rest D) (hs : swapsWith e (some (.Subscript o (.Tuple es x1 p) pos')) pos.line X.env = pure false := by rfl) : ExK X G M (.Assign [.Subscript o (.Tuple es x1 p) pos'] e pos :: rest) D :=
  ex_of (ps_dput (hu_of C.room) sE (pe_tup sA) sE hs) fun σ S H E sa sp po => h.go sa sp fun v z M1 S1 H1 h1 e1 sa1 sp1 is1 => h1.go sa1 sp1 fun u y M2 S2 H2 h2 e2 sa2 sp2 is2 => EaK.go h2 sa2 sp2 fun vs ys M3 S3 H3 ⟨ds, ed, f, nn, mm, qs, dz, ez, ey, eq, hl1, hm, hl, h3⟩ e3 sa3 sp3 is3 => by
    subst ed ez ey eq
    have ld := dpa_len (isa_dpa is3)
    refine ⟨Nat.le_of_lt (small1000 (by omega)), fun p hp => ?_⟩
    have n1 := sp3.freeS hp
    have i1 := is_mono (same_new (o := .tup vs) n1) _ _ (is_mono (e2.trans e3) _ _ is1)
    have ev := is_val is2
    subst ev
    have sp4 := sp3.put (o := .tup vs) hp
    obtain ⟨_, o1, g1, g2⟩ := sp4.mem f _ hm
    cases g2 with
    | @dT kvs _ _ g2 g3 =>
      cases i1 with
      | d i1 =>
        refine ⟨f, _, rfl, .inr ⟨kvs, qs, p, g1, rfl, by rw [upd_same, dpa_keys (isa_dpa is3)], Nat.lt_of_le_of_lt (Nat.le_trans g2 hl) (by decide), rfl⟩, ?_⟩
        exact ExK.go h3 (sa3.mono (same_new n1)) (sp4.set hm (.dT (Nat.le_trans (length_putK _ _ _) (Nat.succ_le_succ g2)) (dm_put g3 i1))) (po.later (((e1.trans e2).trans e3).trans (same_new n1)))
/-- xs[i] = e, the list in the memory -/
theorem ex_lput {pos' : Pos} (h : EvK X G M e fun z M1 => EvK X G M1 o fun y M2 => EvK X G M2 b fun q M3 => ∃ (f : Addr) (ys : List Sy) (l : Nat), y = .v (.ref f) ∧ q = .d (.int (l : Nat)) ∧ M3 f = some (.lst ys) ∧ l < ys.length ∧
      ExK X G (updM M3 f (.lst (ys.set l z))) rest D) (hs : swapsWithSole [.Subscript o b pos'] e pos.line X.env = pure false := by rfl) (hw : swappedStores [.Subscript o b pos'] e X.env = pure none := by rfl)
    (ha : ∀ v, assign (.Subscript o b pos') X.env v = (do
      let ov ← holding [v] (eval o X.env)
      let iv ← holding [v, ov] (eval b X.env)
      standAt pos'
      holding [v, ov, iv] (setItem ov iv v)
      release [v, ov, iv] []) := by intro _; rfl) : ExK X G M (.Assign [.Subscript o b pos'] e pos :: rest) D :=
  ex_of (ps_asg sE (pg_sub sE sE set_list ha) hs hw) fun σ S H E sa sp po => h.go sa sp fun v z M1 S1 H1 h1 e1 sa1 sp1 is1 => h1.go sa1 sp1 fun u y M2 S2 H2 h2 e2 sa2 sp2 is2 => h2.go sa2 sp2 fun u2 q M3 S3 H3 ⟨f, ys, l, ey, eq, hm, hl, h3⟩ e3 sa3 sp3 is3 => by
    subst ey eq
    have i1 := is_mono (e2.trans e3) _ _ is1
    have ev := is_val is2
    subst ev
    rw [is_int is3]
    obtain ⟨_, o1, g1, g2⟩ := sp3.mem f _ hm
    cases g2 with
    | @lst xs _ g2 =>
      refine ⟨f, xs, (l : Nat), l, rfl, rfl, g1, ?_, ?_⟩
      · rw [isa_len g2]
        unfold ixN
        rw [if_pos (by omega), if_pos (by omega)]
        simp
      · have g3 : ∀ {xs : List V} {ys : List Sy} (l : Nat), IsA X.K S3 xs ys → IsA X.K S3 (xs.set l v) (ys.set l z) := by
          intro xs ys l h
          induction l generalizing xs ys with
          | zero => cases h with
            | nil => exact .nil
            | cons _ h2 => exact .cons i1 h2
          | succ l ih => cases h with
            | nil => exact .nil
            | cons h1 h2 => exact .cons h1 (ih h2)
        exact ExK.go h3 sa3 (sp3.set hm (.lst (g3 l g2))) (po.later ((e1.trans e2).trans e3))
theorem ex_while (C : Cxi X P w K mg base n) (W : Nat → Ga → Mem → Prop) {m0 : Nat} (h0 : W m0 G M)
    (hs : ∀ m G M, W m G M → TeK X G M c fun t M1 => if t = true then ExK X G M1 body { nx := fun G' M' => ∃ m', m' < m ∧ W m' G' M', rt := D.rt, bk := fun G' M' => ExK X G' M' rest D, ct := fun G' M' => ∃ m', m' < m ∧ W m' G' M' } else ExK X G M1 rest D) : ExK X G M (.While c body [] pos :: rest) D :=
  ex_of (ps_while C.own sT sS) fun σ S H E sa sp po => by
    refine ⟨fun m σ' H' => ∃ S' G' M', Same S S' ∧ Sat X.K G' σ' S' ∧ Split X.K S' M' H' ∧ W m G' M', ⟨m0, S, G, M, Same.refl S, sa, sp, h0⟩, ?_⟩
    rintro m σ1 H1 ⟨S1, G1, M1, e1, sa1, sp1, w1⟩
    refine (hs m G1 M1 w1).go sa1 sp1 fun t M2 S2 H2 h2 e2 sa2 sp2 => ?_
    cases t with
    | false => exact iteF (ExK.go h2 sa2 sp2 (po.later (e1.trans e2)))
    | true =>
      refine iteT ⟨fun σ' H' => ∃ m', m' < m ∧ ∃ S' G' M', Same S S' ∧ Sat X.K G' σ' S' ∧ Split X.K S' M' H' ∧ W m' G' M', fun σ' H' h => h, ?_⟩
      refine ExK.go h2 sa2 sp2 ⟨fun G' σ' M' S' H' ⟨m', l, w'⟩ e3 sa3 sp3 => ⟨m', l, S', G', M', (e1.trans e2).trans e3, sa3, sp3, w'⟩, (po.later (e1.trans e2)).rt, fun G' σ' M' S' H' h3 e3 sa3 sp3 => ?_, fun G' σ' M' S' H' ⟨m', l, w'⟩ e3 sa3 sp3 => ⟨m', l, S', G', M', (e1.trans e2).trans e3, sa3, sp3, w'⟩⟩
      exact ExK.go h3 sa3 sp3 (po.later ((e1.trans e2).trans e3))
theorem ex_raise_never (h : False) : ExK X G M rest D := h.elim
end

/-! ### what is walked -/
structure Bnd (X : Cx) (tg : Expr) (g : TG) (b : Sy → Ga → Ga) (ok : Sy → Prop) : Prop where
  pg : PG X tg g
  go : ∀ {S H : Hp} {x : V} {y : Sy} {G : Ga} {σ : L2.St} {Q : L2.St → Hp → Prop}, ok y → Is X.K S x y → Same S H → Sat X.K G σ S → (∀ σ', Sat X.K (b y G) σ' S → Q σ' H) → g x σ H Q
structure TIt (K : PySem.W.Frag) (J : It) (items : List Sy) (S0 : Hp) : Prop where
  stop : ∀ (i : Nat) (S : Hp) (M : Mem) (H : Hp), i = items.length → Same S0 S → Split K S M H → J.stop i H
  go : ∀ (i : Nat) (S : Hp) (M : Mem) (H : Hp), i < items.length → Same S0 S → Split K S M H → J.go i H
  yld : ∀ (i : Nat) (S : Hp) (M : Mem) (H : Hp) (x : V) (H' : Hp) (y : Sy), items[i]? = some y → Same S0 S → Split K S M H → J.yld i H x H' → ∃ S', Same S S' ∧ Split K S' M H' ∧ Is K S' x y
def PitK (X : Cx) (G : Ga) (M : Mem) (tg iter : Expr) (k : List Sy → Mem → Prop) : Prop := ∃ wi, PI X tg iter wi ∧ ∀ (σ : L2.St) (S H : Hp) (R : It → Hp → Prop), Sat X.K G σ S → Split X.K S M H →
  (∀ (J : It) (items : List Sy) (M' : Mem) (S' H' : Hp), k items M' → Same S S' → Split X.K S' M' H' → TIt X.K J items S' → R J H') → wi σ H R
def ForL (X : Cx) (body : List Stmt) (b : Sy → Ga → Ga) (D : Tends) : List Sy → Ga → Mem → Prop
  | [], G, M => D.nx G M
  | y :: ys, G, M => ExK X (b y G) M body { nx := fun G' M' => ForL X body b D ys G' M', rt := D.rt, bk := D.nx, ct := fun G' M' => ForL X body b D ys G' M' }
section
variable {X : Cx} {P : Program} {w : World} {K : PySem.W.Frag} {mg : Str → Option Value} {base : Heap} {n j : Nat} {G : Ga} {M : Mem} {k : Sy → Mem → Prop} {kb : Bool → Mem → Prop} {ka kl : List Sy → Mem → Prop}
variable {a b c e o tg iter : Expr} {es : List Expr} {rest body : List Stmt} {x m : Str} {p p2 p3 pos apos cpos : Pos} {i : Nat} {y z : Sy} {T : Tr} {f : Addr} {ds : List PyData} {d : PyData} {ys zs : List Sy} {D : Tends} {st : Stmt} {g : TG} {bf : Sy → Ga → Ga} {ok : Sy → Prop}
theorem bnd_name (nd : X.N.Nodup) (s : Slot X i x) : Bnd X (.Name x p) (gName i) (fun y G => G.set i (some y)) (fun _ => True) :=
  ⟨pg_name nd s.n s.loc s.fn, fun _ h _ sa q => q _ (sa.set h)⟩
def unT : Sy → List Sy
  | .d (.tuple ds) => ds.map Sy.d
  | _ => []
theorem bnd_tup {is : List Nat} {x1 : Nat} (nd : X.N.Nodup) (hc : X.calm = true) (t : Tgs X es is) : Bnd X (.Tuple es x1 p) (gTup X.K is.length (gAll is)) (fun y G => setAll G is (unT y)) (fun y => ∃ ds, y = .d (.tuple ds) ∧ ds.length = is.length) :=
  ⟨pg_tup hc (pgs_all nd t) (tgs_each t).1 (tgs_each t).2, fun {S H x y G σ Q} ⟨ds, ey, hl⟩ h e sa q => by
    subst ey
    obtain ⟨a, xs, rfl, h2, h3⟩ := is_tup h
    exact ⟨a, xs, rfl, same_sqT e h2, by rw [dpa_len h3, hl], gAll_go (by rw [List.length_map, hl]) (dpa_isa h3) sa fun σ' sa2 => q σ' sa2⟩⟩
theorem ex_for (C : Cxi X P w K mg base n) (B : Bnd X tg g bf ok) (h : PitK X G M tg iter fun items M1 => (∀ y ∈ items, ok y) ∧ ForL X body bf (D.then_ X rest) items G M1) (hs : ∀ x, foldedSetIterable iter X.env x = pure x := by intro _; rfl) : ExK X G M (.For tg iter body [] pos :: rest) D := by
  obtain ⟨wi, hi, hw⟩ := h
  refine ex_of (ps_for C.own C.calm hi B.pg sS hs) fun σ S H E sa sp po => hw σ S H _ sa sp fun J items M1 S1 H1 ⟨hok, h1⟩ e1 sp1 ti => ?_
  have sa1 := sa.mono e1
  refine ⟨fun i m σ' H' => m = items.length - i ∧ i ≤ items.length ∧ ∃ S' G' M', Same S1 S' ∧ Sat X.K G' σ' S' ∧ Split X.K S' M' H' ∧ ForL X body bf (D.then_ X rest) (items.drop i) G' M', ⟨items.length, by simp, Nat.zero_le _, S1, G, M1, Same.refl _, sa1, sp1, h1⟩, ?_⟩
  rintro i m σ2 H2 ⟨rfl, hi2, S2, G2, M2, e2, sa2, sp2, h2⟩
  by_cases hlt : i < items.length
  · have ed : items.drop i = items[i] :: items.drop (i + 1) := List.drop_eq_getElem_cons hlt
    rw [ed] at h2
    refine .inr ⟨ti.go i S2 M2 H2 hlt e2 sp2, fun σ' H' => ∃ S' G' M', Same S1 S' ∧ Sat X.K G' σ' S' ∧ Split X.K S' M' H' ∧ ForL X body bf (D.then_ X rest) (items.drop (i + 1)) G' M', fun σ' H' h' => ⟨items.length - (i + 1), by omega, rfl, hlt, h'⟩, fun x H' hy => ?_⟩
    obtain ⟨S3, e3, sp3, is3⟩ := ti.yld i S2 M2 H2 x H' items[i] (List.getElem?_eq_getElem hlt) e2 sp2 hy
    refine B.go (hok _ (List.getElem_mem hlt)) is3 sp3.sub (sa2.mono e3) fun σ' sa3 => ?_
    have h3 : ExK X (bf items[i] G2) M2 body { nx := fun G' M' => ForL X body bf (D.then_ X rest) (items.drop (i + 1)) G' M', rt := D.rt, bk := fun G' M' => ExK X G' M' rest D, ct := fun G' M' => ForL X body bf (D.then_ X rest) (items.drop (i + 1)) G' M' } := h2
    refine ExK.go h3 sa3 sp3 ⟨fun G' σ' M' S' H' h4 e4 sa4 sp4 => ⟨S', G', M', (e2.trans e3).trans e4, sa4, sp4, h4⟩, (po.later ((e1.trans e2).trans e3)).rt, fun G' σ' M' S' H' h4 e4 sa4 sp4 => ?_, fun G' σ' M' S' H' h4 e4 sa4 sp4 => ⟨S', G', M', (e2.trans e3).trans e4, sa4, sp4, h4⟩⟩
    exact ExK.go h4 sa4 sp4 (po.later (((e1.trans e2).trans e3).trans e4))
  · have e : i = items.length := by omega
    subst e
    rw [List.drop_length] at h2
    have h3 : ExK X G2 M2 rest D := h2
    exact .inl ⟨ti.stop _ S2 M2 H2 rfl e2 sp2, ExK.go h3 sa2 sp2 (po.later (e1.trans e2))⟩

/-! ### lists, tuples, ranges -/
theorem tit_list {S : Hp} {a : Addr} {xs : List V} (h : SqL K S a xs) (hx : IsA K S xs ys) : TIt K (Itl K a) ys S where
  stop := fun i S' M H hi e sp => ⟨xs, Same.seq (e.trans sp.sub) h, by rw [isa_len hx]; exact Nat.le_of_eq hi.symm⟩
  go := fun i S' M H hi e sp => by
    obtain ⟨x, h1, _⟩ := isa_get (i := i) hx (List.getElem?_eq_getElem hi)
    exact ⟨xs, x, Same.seq (e.trans sp.sub) h, h1⟩
  yld := fun i S' M H x H' y hi e sp ⟨e1, e2⟩ => by
    subst e1
    obtain ⟨x', h1, h2⟩ := isa_get hx hi
    have q := e2 xs (Same.seq (e.trans sp.sub) h)
    rw [h1] at q
    cases q
    exact ⟨S', Same.refl _, sp, is_mono e _ _ h2⟩
theorem tit_tup {S : Hp} {a : Addr} {xs : List V} (h : SqT K S a xs) (hx : IsA K S xs ys) : TIt K (Itt K a) ys S where
  stop := fun i S' M H hi e sp => ⟨xs, same_sqT (e.trans sp.sub) h, by rw [isa_len hx]; exact Nat.le_of_eq hi.symm⟩
  go := fun i S' M H hi e sp => by
    obtain ⟨x, h1, _⟩ := isa_get (i := i) hx (List.getElem?_eq_getElem hi)
    exact ⟨xs, x, same_sqT (e.trans sp.sub) h, h1⟩
  yld := fun i S' M H x H' y hi e sp ⟨e1, e2⟩ => by
    subst e1
    obtain ⟨x', h1, h2⟩ := isa_get hx hi
    have q := e2 xs (same_sqT (e.trans sp.sub) h)
    rw [h1] at q
    cases q
    exact ⟨S', Same.refl _, sp, is_mono e _ _ h2⟩
theorem pk_sl (h : EvK X G M iter fun y M1 => ∃ ys, y = .sl ys ∧ kl ys M1) : PitK X G M tg iter kl :=
  ⟨_, pi_list sE, fun σ S H R sa sp q => h.go sa sp fun v y M1 S1 H1 ⟨ys, ey, h1⟩ e1 sa1 sp1 is1 => by
    subst ey
    cases is1 with
    | sl i1 i2 => exact ⟨_, rfl, ⟨_, .inl (.inl (sp1.sub _ _ i1))⟩, q _ ys M1 S1 H1 h1 e1 sp1 (tit_list (.inl (.inl i1)) i2)⟩⟩
theorem pk_tup (h : EvK X G M iter fun y M1 => ∃ ds, y = .d (.tuple ds) ∧ kl (ds.map Sy.d) M1) : PitK X G M tg iter kl :=
  ⟨_, pi_tup sE, fun σ S H R sa sp q => h.go sa sp fun v y M1 S1 H1 ⟨ds, ey, h1⟩ e1 sa1 sp1 is1 => by
    subst ey
    obtain ⟨a, xs, rfl, h2, h3⟩ := is_tup is1
    exact ⟨a, rfl, ⟨_, same_sqT sp1.sub h2⟩, q _ _ M1 S1 H1 h1 e1 sp1 (tit_tup h2 (dpa_isa h3))⟩⟩
def rngL (lo c : Int) (n : Nat) : List Sy := (List.range n).map fun i => .d (.int (lo + (i : Nat) * c))
theorem rngL_len {lo c : Int} {n : Nat} : (rngL lo c n).length = n := by unfold rngL; rw [List.length_map, List.length_range]
theorem rngL_get {lo c : Int} {n i : Nat} {y : Sy} (h : (rngL lo c n)[i]? = some y) : i < n ∧ y = .d (.int (lo + (i : Nat) * c)) := by
  have hi : i < n := by
    have q := (List.getElem?_eq_some_iff.mp h).1
    rw [rngL_len] at q
    exact q
  refine ⟨hi, ?_⟩
  unfold rngL at h
  rw [List.getElem?_map, List.getElem?_range hi] at h
  exact (Option.some.inj h).symm
theorem tit_range {S : Hp} {lo : Int} {n : Nat} : TIt K (Itr lo n) (rngL lo 1 n) S where
  stop := fun i S' M H hi e sp => by rw [rngL_len] at hi; exact Nat.le_of_eq hi.symm
  go := fun i S' M H hi e sp => by rw [rngL_len] at hi; exact hi
  yld := fun i S' M H x H' y hi e sp ⟨e1, e2⟩ => by
    subst e1 e2
    obtain ⟨h1, h2⟩ := rngL_get hi
    subst h2
    have e3 : lo + ((i : Nat) : Int) * 1 = lo + ((i : Nat) : Int) := by omega
    exact ⟨S', Same.refl _, sp, by rw [e3]; exact .d (.int _)⟩
theorem tit_rangeC {S : Hp} {lo c : Int} {n : Nat} : TIt K (Itc lo c n) (rngL lo c n) S where
  stop := fun i S' M H hi e sp => by rw [rngL_len] at hi; exact Nat.le_of_eq hi.symm
  go := fun i S' M H hi e sp => by rw [rngL_len] at hi; exact hi
  yld := fun i S' M H x H' y hi e sp ⟨e1, e2⟩ => by
    subst e1 e2
    obtain ⟨h1, h2⟩ := rngL_get hi
    subst h2
    exact ⟨S', Same.refl _, sp, .d (.int _)⟩
theorem pk_range1 (C : Cxi X P w K mg base n) (hg : Gl X "range") (hm : mg "range" = none) (h : EaK X G M [a] fun ys M1 => ∃ l : Int, ys = [.d (.int l)] ∧ -(2 ^ 62) ≤ l ∧ l < 2 ^ 62 ∧ kl (rngL 0 1 l.toNat) M1) (hs : starEach [a] X.env = [(false, eval a X.env)] := by rfl) : PitK X G M tg (.Call (.Name "range" p) [a] [] pos) kl := by
  obtain ⟨rfl, rfl, rfl, rfl, rfl, nd, cal, room, own⟩ := C
  refine ⟨_, pi_range1 hg hm sA hs, fun σ S H R sa sp q => h.go sa sp fun vs ys M1 S1 H1 ⟨l, ey, h1, h2, h3⟩ e1 sa1 sp1 is1 => ?_⟩
  subst ey
  obtain ⟨v, rfl, i1⟩ := isa1 is1
  exact ⟨l, by rw [is_int i1], h1, h2, q _ _ M1 S1 H1 h3 e1 sp1 tit_range⟩
theorem pk_range2 (C : Cxi X P w K mg base n) (hg : Gl X "range") (hm : mg "range" = none) (h : EaK X G M [a, b] fun ys M1 => ∃ i l : Int, ys = [.d (.int i), .d (.int l)] ∧ (-(2 ^ 62) ≤ i ∧ i < 2 ^ 62 ∧ -(2 ^ 62) ≤ l ∧ l < 2 ^ 62) ∧ kl (rngL i 1 (l - i).toNat) M1)
    (hs : starEach [a, b] X.env = [(false, eval a X.env), (false, eval b X.env)] := by rfl) (hs2 : starEach [b] X.env = [(false, eval b X.env)] := by rfl) : PitK X G M tg (.Call (.Name "range" p) [a, b] [] pos) kl := by
  obtain ⟨rfl, rfl, rfl, rfl, rfl, nd, cal, room, own⟩ := C
  refine ⟨_, pi_range2 hg hm sA hs hs2, fun σ S H R sa sp q => h.go sa sp fun vs ys M1 S1 H1 ⟨i, l, ey, h1, h3⟩ e1 sa1 sp1 is1 => ?_⟩
  subst ey
  obtain ⟨v, v2, rfl, i1, i2⟩ := isa2 is1
  exact ⟨i, l, by rw [is_int i1, is_int i2], h1, q _ _ M1 S1 H1 h3 e1 sp1 tit_range⟩
theorem pk_range3 (C : Cxi X P w K mg base n) (hg : Gl X "range") (hm : mg "range" = none) (h : EaK X G M [a, b, c] fun ys M1 => ∃ (i l st : Int) (nn : Nat), ys = [.d (.int i), .d (.int l), .d (.int st)] ∧ RgC i l st nn ∧ kl (rngL i st nn) M1)
    (hs : starEach [a, b, c] X.env = (false, eval a X.env) :: starEach [b, c] X.env := by rfl) (hpl : (backTo pos (starEach [b, c] X.env)).any (·.1) = false := by rfl) : PitK X G M tg (.Call (.Name "range" p) [a, b, c] [] pos) kl := by
  obtain ⟨rfl, rfl, rfl, rfl, rfl, nd, cal, room, own⟩ := C
  refine ⟨_, pi_range3 hg hm sA hs hpl, fun σ S H R sa sp q => h.go sa sp fun vs ys M1 S1 H1 ⟨i, l, st, nn, ey, h1, h3⟩ e1 sa1 sp1 is1 => ?_⟩
  subst ey
  cases is1 with
  | cons i1 is1 =>
    obtain ⟨v, v2, rfl, i2, i3⟩ := isa2 is1
    exact ⟨i, l, st, nn, by rw [is_int i1, is_int i2, is_int i3], h1, q _ _ M1 S1 H1 h3 e1 sp1 tit_rangeC⟩
def signL (z : Str) : List Sy := z.cps.toList.map fun c => .d (.str ⟨#[c]⟩)
theorem signL_get {z : Str} {i : Nat} {y : Sy} (h : (signL z)[i]? = some y) : ∃ c, z.cps[i]? = some c ∧ y = .d (.str ⟨#[c]⟩) := by
  unfold signL at h
  rw [List.getElem?_map] at h
  obtain ⟨c, h1, h2⟩ := Option.map_eq_some_iff.mp h
  exact ⟨c, by simpa using h1, h2.symm⟩
theorem signL_len {z : Str} : (signL z).length = z.cps.size := by unfold signL; rw [List.length_map]; simp
theorem tit_str {S : Hp} {z : Str} : TIt K (Its z) (signL z) S where
  stop := fun i S' M H hi e sp => by rw [signL_len] at hi; exact Nat.le_of_eq hi.symm
  go := fun i S' M H hi e sp => by rw [signL_len] at hi; exact hi
  yld := fun i S' M H x H' y hi e sp ⟨e1, c, e2, e3⟩ => by
    subst e1 e3
    obtain ⟨c', h1, h2⟩ := signL_get hi
    rw [e2] at h1
    cases h1
    subst h2
    exact ⟨S', Same.refl _, sp, .d (.str _)⟩
theorem pk_str (h : EvK X G M iter fun y M1 => ∃ z, y = .d (.str z) ∧ kl (signL z) M1) : PitK X G M tg iter kl :=
  ⟨_, pi_str sE, fun σ S H R sa sp q => h.go sa sp fun v y M1 S1 H1 ⟨z, ey, h1⟩ e1 sa1 sp1 is1 => by
    subst ey
    exact ⟨z, is_str is1, q _ _ M1 S1 H1 h1 e1 sp1 tit_str⟩⟩
/-- enumerate(a list of data) -/
def enumL (ds : List PyData) : List Sy := (List.range ds.length).map fun i => .d (.tuple [.int (i : Nat), ds.getD i .none])
theorem enumL_len : (enumL ds).length = ds.length := by unfold enumL; rw [List.length_map, List.length_range]
theorem enumL_get {y : Sy} (h : (enumL ds)[i]? = some y) : ∃ d, ds[i]? = some d ∧ y = .d (.tuple [.int (i : Nat), d]) := by
  have hi : i < ds.length := by
    have q := (List.getElem?_eq_some_iff.mp h).1
    rw [enumL_len] at q
    exact q
  unfold enumL at h
  rw [List.getElem?_map, List.getElem?_range hi] at h
  refine ⟨ds[i], List.getElem?_eq_getElem hi, ?_⟩
  have q : y = .d (.tuple [.int (i : Nat), ds.getD i .none]) := (Option.some.inj h).symm
  rw [q, List.getD_eq_getElem?_getD, List.getElem?_eq_getElem hi]
  rfl
theorem pk_enum {elts : List Expr} {kk : Nat} {tpos : Pos} (C : Cxi X P w K mg base n) (hg : Gl X "enumerate") (hm : mg "enumerate" = none) (h : EaK X G M [e] fun ys M1 => ∃ ds, ys = [.sl (ds.map Sy.d)] ∧ kl (enumL ds) M1)
    (hs : starEach [e] X.env = [(false, eval e X.env)] := by rfl) : PitK X G M (.Tuple elts kk tpos) (.Call (.Name "enumerate" p) [e] [] pos) kl := by
  obtain ⟨rfl, rfl, rfl, rfl, rfl, nd, cal, room, own⟩ := C
  refine ⟨_, pi_enum hg hm sA hs, fun σ S H R sa sp q => h.go sa sp fun vs ys M1 S1 H1 ⟨ds, ey, h3⟩ e1 sa1 sp1 is1 => ?_⟩
  subst ey
  obtain ⟨v, rfl, i1⟩ := isa1 is1
  cases i1 with
  | @sl a xs _ i1 i2 =>
    refine ⟨a, xs, rfl, .inl (.inl (sp1.sub _ _ i1)), q _ _ M1 S1 H1 h3 e1 sp1 ?_⟩
    have hx := isa_dpa i2
    refine ⟨fun i S' M H hi e sp => ⟨xs, .inl (.inl (sp.sub _ _ (e _ _ i1))), by rw [dpa_len hx, ← enumL_len]; exact Nat.le_of_eq hi.symm⟩, fun i S' M H hi e sp => ?_, fun i S' M H x H' y hi e sp ⟨T, x', e1, e2, e3, e4⟩ => ?_⟩
    · rw [enumL_len] at hi
      obtain ⟨x, h1, _⟩ := dpa_get hx (List.getElem?_eq_getElem hi)
      exact ⟨xs, x, .inl (.inl (sp.sub _ _ (e _ _ i1))), h1⟩
    · obtain ⟨d, h1, h2⟩ := enumL_get hi
      obtain ⟨x2, h5, h6⟩ := dpa_get hx h1
      have h7 := e4 xs (.inl (.inl (sp.sub _ _ (e _ _ i1))))
      rw [h5] at h7
      cases h7
      subst h2 e1 e3
      have n1 := sp.freeS e2
      exact ⟨upd S' T (.tup [.int (i : Nat), x']), same_new n1, sp.put e2, .d (.tup (.inl (.inl upd_same)) (.cons (.int _) (.cons (dp_mono (e.trans (same_new n1)) _ _ h6) .nil)) (List.cons_ne_nil _ _))⟩
/-- zip of two empty lists -/
theorem pk_zip0 {elts : List Expr} {kk : Nat} {tpos : Pos} (C : Cxi X P w K mg base n) (hg : Gl X "zip") (hm : mg "zip" = none) (h : EaK X G M [a, b] fun ys M1 => ys = [.sl [], .sl []] ∧ kl [] M1)
    (hs : starEach [a, b] X.env = (false, eval a X.env) :: starEach [b] X.env := by rfl) (hpl : (backTo pos (starEach [b] X.env)).any (·.1) = false := by rfl) : PitK X G M (.Tuple elts kk tpos) (.Call (.Name "zip" p) [a, b] [] pos) kl := by
  obtain ⟨rfl, rfl, rfl, rfl, rfl, nd, cal, room, own⟩ := C
  refine ⟨_, pi_zip hg hm sA hs hpl, fun σ S H R sa sp q => h.go sa sp fun vs ys M1 S1 H1 ⟨ey, h3⟩ e1 sa1 sp1 is1 => ?_⟩
  subst ey
  obtain ⟨v, v2, rfl, i1, i2⟩ := isa2 is1
  cases i1 with
  | @sl a1 xs _ i1 i3 =>
    cases i3
    cases i2 with
    | @sl b1 ys _ i2 i4 =>
      cases i4
      refine ⟨a1, b1, [], [], rfl, .inl (.inl (sp1.sub _ _ i1)), .inl (.inl (sp1.sub _ _ i2)), q _ _ M1 S1 H1 h3 e1 sp1 ?_⟩
      exact ⟨fun i S' M H hi e sp => ⟨[], [], .inl (.inl (sp.sub _ _ (e _ _ i1))), .inl (.inl (sp.sub _ _ (e _ _ i2))), .inl (Nat.zero_le _)⟩, fun i S' M H hi e sp => absurd hi (Nat.not_lt_zero _), fun i S' M H x H' y hi e sp _ => by simp at hi⟩
end
end Sx
namespace Sx
open PySem PySem.Spec PyProof.Rows L2

/-! ### zip(a text, a tuple), of one length -/
def Itst (K : PySem.W.Frag) (z : Str) (a : Addr) : It :=
  ⟨fun i H => ∃ ys, SqT K H a ys ∧ ys.length = z.cps.size ∧ i < z.cps.size,
    fun i H v H' => ∃ T c y, v = .ref T ∧ H T = none ∧ H' = upd H T (.tup [.str ⟨#[c]⟩, y]) ∧ z.cps[i]? = some c ∧ ∀ ys, SqT K H a ys → ys[i]? = some y,
    fun i H => ∃ ys, SqT K H a ys ∧ ys.length = z.cps.size ∧ i = z.cps.size⟩
theorem turn_zst {P : Program} {w : World} {K : PySem.W.Frag} {elts : List Expr} {kk : Nat} {tpos : Pos} {z TI TO i1 i2 a : Addr} {x : Str} {tk : Tok} (D : ZipSep2 z TI TO i1 i2 [i1] [i2, a]) (h2a : i2 ≠ a) :
    Turn P w K (.Tuple elts kk tpos) (Itst K x a) [z, TI, TO, i1, i2] z (fun i h => IsZip h z TI TO .none ∧ IsTupOf2 h TI (.ref i1) (.ref i2) ∧ (∃ a1 a2, IsTupOf2 h TO a1 a2) ∧ h.IsStrIter i1 (strIterType x) x tk i ∧ h.IsTupleIter i2 a i) where
  mem := by simp
  obj := fun i h st c hc => by
    obtain ⟨hz, hTI, ⟨x, y, hTO⟩, ⟨o1, e1, _, d1⟩, ⟨o2, e2, _, d2⟩⟩ := st
    have e' : c = z ∨ c = TI ∨ c = TO ∨ c = i1 ∨ c = i2 := by simpa using hc
    rcases e' with q | q | q | q | q
    · rw [q]; exact ⟨_, hz, fun v q => nomatch q⟩
    · rw [q]; exact ⟨_, hTI, fun v q => nomatch q⟩
    · rw [q]; exact ⟨_, hTO, fun v q => nomatch q⟩
    · rw [q]; exact ⟨o1, e1, fun v q => by rw [d1] at q; cases q⟩
    · rw [q]; exact ⟨o2, e2, fun v q => by rw [d2] at q; cases q⟩
  keep := fun i h h' st k => by
    obtain ⟨hz, hTI, ⟨x, y, hTO⟩, ⟨o1, e1, r1⟩, h2⟩ := st
    exact ⟨k z (by simp) _ hz, k TI (by simp) _ hTI, ⟨x, y, k TO (by simp) _ hTO⟩, ⟨o1, k i1 (by simp) _ e1, r1⟩, h2.at fun o q => k i2 (by simp) o q⟩
  item := by
    intro X hP hw hK hc i pins s σ H E I hf st hg
    subst hP hw hK
    obtain ⟨hz, hTI, hTO, h1, h2⟩ := st
    obtain ⟨ys, hqy, hl, hi⟩ := hg
    obtain ⟨its, rv, p, _⟩ := I.tuple hqy
    have hlen := rv.length
    have W := GoesN.zip2 (elts := elts) (x1 := kk) (pos := tpos) D (Draws.text (prog := X.prog) (w := X.w) (A := X.A.in1) (show X.A.in1.handled = none from I.ok.hd hc) i1 x tk) (Draws.tuple (prog := X.prog) (w := X.w) (A := X.A.in1) (show X.A.in1.handled = none from I.ok.hd hc) i2 a (Ne.symm h2a) its.toArray)
    have hmin : i < min x.cps.size its.toArray.size := by
      have e : its.toArray.size = x.cps.size := by simp; omega
      rw [e]
      omega
    refine W.goes i s _ E hmin ⟨hz, hTI, hTO, h1, h2, p⟩ fun v h' tk' ⟨T, u1, u2, ev, hn, ⟨c, uc, hcx, eu1⟩, hu2, hT⟩ ⟨hz', hTI', hTO', h1', h2', _⟩ hk htk => ?_
    subst ev eu1
    obtain ⟨y, hy⟩ : ∃ y, ys[i]? = some y := ⟨ys[i]'(by omega), List.getElem?_eq_getElem (by omega)⟩
    obtain ⟨u3, hu3, ru⟩ := rv.get hy
    have e3 : u2 = u3 := by
      have q : its[i]? = some u2 := by simpa using hu2
      rw [hu3] at q
      exact (Option.some.inj q).symm
    subst e3
    have hHT : H T = none := I.hok.fresh hn
    have new : ObjOk X.prog X.w (upd H T (.tup [.str ⟨#[c]⟩, y])) h' T (.tup [.str ⟨#[c]⟩, y]) :=
      ⟨by show 2 ≤ sizeLine; decide, [.str ⟨#[c]⟩ uc, u2], .cons ⟨uc, rfl⟩ (.cons ru .nil), hT⟩
    have I1 : Inv X pins σ (upd H T (.tup [.str ⟨#[c]⟩, y])) { s with heap := h', toks := tk' } :=
      I.turnedNew (t' := tk') (ch := [z, TI, TO, i1, i2]) (fun b o hb q => hk b o (fun q' => hb (by
        have e' : b = z ∨ b = TO ∨ b = i1 ∨ b = i2 := by simpa using q'
        rcases e' with e | e | e | e <;> simp [e])) q) hf hn new
    refine ⟨.ref T, _, I1, rfl, ⟨T, c, y, rfl, hHT, rfl, hcx, fun l hl => by rw [I.tuple_inj hl hqy]; exact hy⟩, ⟨hz', hTI', hTO', h1', h2'⟩, fun b hb => ?_⟩
    have hlt : b < s.heap.objs.size := by
      have e' : b = z ∨ b = TI ∨ b = TO ∨ b = i1 ∨ b = i2 := by simpa using hb
      rcases e' with q | q | q | q | q
      · rw [q]; exact Heap.lt_size hz
      · rw [q]; exact Heap.lt_size hTI
      · obtain ⟨_, _, hTO⟩ := hTO
        rw [q]; exact Heap.lt_size hTO
      · rw [q]; obtain ⟨_, e1, _⟩ := h1; exact Heap.lt_size e1
      · rw [q]; obtain ⟨_, e2, _⟩ := h2; exact Heap.lt_size e2
    rw [upd_ne (Nat.ne_of_lt (Nat.lt_of_lt_of_le hlt hn))]
    exact (hf b hb).1
  done := by
    intro X hP hw hK hc i pins s σ H E I hf st hg
    subst hP hw hK
    obtain ⟨hz, hTI, hTO, h1, h2⟩ := st
    obtain ⟨ys, hqy, hl, hi⟩ := hg
    obtain ⟨its, rv, p, _⟩ := I.tuple hqy
    have hlen := rv.length
    have W := GoesN.zip2 (elts := elts) (x1 := kk) (pos := tpos) D (Draws.text (prog := X.prog) (w := X.w) (A := X.A.in1) (show X.A.in1.handled = none from I.ok.hd hc) i1 x tk) (Draws.tuple (prog := X.prog) (w := X.w) (A := X.A.in1) (show X.A.in1.handled = none from I.ok.hd hc) i2 a (Ne.symm h2a) its.toArray)
    have hmin : i = min x.cps.size its.toArray.size := by
      have e : its.toArray.size = x.cps.size := by simp; omega
      rw [e]
      omega
    subst hmin
    exact W.stops s _ E ⟨hz, hTI, hTO, h1, h2, p⟩ fun h' tk' hk htk => I.turnedL (t' := tk') (ch := [z, TI, TO, i1, i2]) (fun b o hb q => hk b o (fun q' => hb (by
        have e' : b = z ∨ b = TO ∨ b = i1 ∨ b = i2 := by simpa using q'
        rcases e' with e | e | e | e <;> simp [e])) q) hf
  self := fun A i s Q E st h => wpAny_pyIter_zip st.1 h
def iZst (K : PySem.W.Frag) (ta : TA) : TI := fun σ H R => ta σ H fun vs H1 => ∃ x a ys, vs = [.str x, .ref a] ∧ SqT K H1 a ys ∧ R (Itst K x a) H1
theorem pi_zst {X : Cx} {e e2 : Expr} {ta : TA} {p pos tpos : Pos} {elts : List Expr} {kk : Nat} (hg : Gl X "zip") (hm : X.mg "zip" = none) (ha : PA X [e, e2] ta)
    (hs : starEach [e, e2] X.env = (false, eval e X.env) :: starEach [e2] X.env := by rfl) (hpl : (backTo pos (starEach [e2] X.env)).any (·.1) = false := by rfl) :
    PI X (.Tuple elts kk tpos) (.Call (.Name "zip" p) [e, e2] [] pos) (iZst X.K ta) := by
  refine ⟨fun pins s σ H R I h => ?_⟩
  refine Call_ (ld_blt I hg hm PyProof.Rows.boot_zip (PyProof.Rows.callWith_type1 (thn (ha.run pos pins s σ H _ I h) fun us s1 ⟨vs, H1, I1, r1, q1⟩ => ?_) hs hpl))
  obtain ⟨x, a, ys, ex, hqy, q⟩ := q1
  subst ex
  cases r1 with
  | cons r rr =>
    cases rr with
    | cons r' rr =>
      cases rr
      obtain ⟨tk, rfl⟩ := r
      cases r'
      obtain ⟨its, rv, p2, _⟩ := I1.tuple hqy
      obtain ⟨o2, ho2, _⟩ := id p2
      have hal := Heap.lt_size ho2
      refine zip_begins2 (begins_text x tk) (begins_tuple a its.toArray) True.intro p2 fun h' hz hTI hTO h1 h2 hsz hk => wpAny_pyIter_zip hz ?_
      have I2 : Inv X pins σ H1 { s1 with heap := h' } := I1.kept (t' := s1.toks) hk
      have fresh5 : ∀ c, c ∈ [s1.heap.objs.size + 4, s1.heap.objs.size + 2, s1.heap.objs.size + 3, s1.heap.objs.size, s1.heap.objs.size + 1] → FpOk X pins H1 c := fun c hcm => by
        have e' : c = s1.heap.objs.size + 4 ∨ c = s1.heap.objs.size + 2 ∨ c = s1.heap.objs.size + 3 ∨ c = s1.heap.objs.size ∨ c = s1.heap.objs.size + 1 := by simpa using hcm
        have hle : s1.heap.objs.size ≤ c := by
          rcases e' with z | z | z | z | z
          · rw [z]; exact Nat.le_add_right _ _
          · rw [z]; exact Nat.le_add_right _ _
          · rw [z]; exact Nat.le_add_right _ _
          · rw [z]; exact Nat.le_refl _
          · rw [z]; exact Nat.le_add_right _ _
        exact I1.fpOk hle (I1.hok.fresh hle)
      have ne4 : ∀ {n a b : Nat}, a ≠ b → n + a ≠ n + b := fun h e => h (Nat.add_left_cancel e)
      have D : ZipSep2 (s1.heap.objs.size + 4) (s1.heap.objs.size + 2) (s1.heap.objs.size + 3) s1.heap.objs.size (s1.heap.objs.size + 1) [s1.heap.objs.size] [s1.heap.objs.size + 1, a] := by
        generalize s1.heap.objs.size = I at hal
        have hal' : a < I := hal
        have gt : ∀ j : Nat, I + j ≠ a := fun j e => by
          have : I + j < I := by rw [e]; exact hal'
          exact absurd this (Nat.not_lt.mpr (Nat.le_add_right _ _))
        exact ⟨ne4 (by decide), ne4 (by decide), ne4 (by decide), ne4 (n := I) (a := 2) (b := 0) (by decide), by simp, by
          intro h
          have e : I + 4 = I + 0 := by simpa using h
          exact ne4 (by decide) e, by
          intro h
          have e : I + 3 = I + 0 := by simpa using h
          exact ne4 (by decide) e, ne4 (by decide), by simp, by
          intro h
          rcases (show I + 4 = I + 1 ∨ I + 4 = a by simpa using h) with e | e
          · exact ne4 (by decide) e
          · exact gt 4 e, by
          intro h
          rcases (show I + 3 = I + 1 ∨ I + 3 = a by simpa using h) with e | e
          · exact ne4 (by decide) e
          · exact gt 3 e, by
          intro h
          rcases (show I = I + 1 ∨ I = a by simpa using h) with e | e
          · exact ne4 (n := I) (a := 0) (b := 1) (by decide) e
          · exact gt 0 e, by
          intro h
          have e : I + 1 = I + 0 := by simpa using h
          exact ne4 (by decide) e⟩
      have h2a : s1.heap.objs.size + 1 ≠ a := fun e => by
        have : s1.heap.objs.size + 1 < s1.heap.objs.size := by rw [e]; exact hal
        exact absurd this (Nat.not_lt.mpr (Nat.le_add_right _ _))
      exact ⟨s1.heap.objs.size + 4, [s1.heap.objs.size + 4, s1.heap.objs.size + 2, s1.heap.objs.size + 3, s1.heap.objs.size, s1.heap.objs.size + 1], _, _, H1, rfl, I2, turn_zst (tk := tk) D h2a, ⟨hz, hTI, ⟨_, _, hTO⟩, ⟨_, h1, rfl, rfl⟩, ⟨_, h2, rfl, rfl⟩⟩, fresh5, q⟩

section
variable {X : Cx} {P : Program} {w : World} {K : PySem.W.Frag} {mg : Str → Option Value} {base : Heap} {n j : Nat} {G : Ga} {M : Mem} {k : Sy → Mem → Prop} {kb : Bool → Mem → Prop} {ka kl : List Sy → Mem → Prop}
variable {a b c e o tg iter : Expr} {es : List Expr} {rest body : List Stmt} {x m : Str} {p p2 p3 pos apos cpos : Pos} {i : Nat} {y z : Sy} {T : Tr} {f : Addr} {ds : List PyData} {d : PyData} {ys zs : List Sy} {D : Tends} {st : Stmt} {g : TG} {bf : Sy → Ga → Ga} {ok : Sy → Prop}
/-- the pairs -/
def zipL : List Nat → List PyData → List Sy
  | c :: cs, d :: ds => .d (.tuple [.str ⟨#[c]⟩, d]) :: zipL cs ds
  | _, _ => []
theorem zipL_len : ∀ {cs : List Nat} {ds : List PyData}, cs.length = ds.length → (zipL cs ds).length = cs.length
  | [], [], _ => rfl
  | c :: cs, d :: ds, h => by
    show (zipL cs ds).length + 1 = cs.length + 1
    rw [zipL_len (by simpa using h)]
theorem zipL_get : ∀ {cs : List Nat} {ds : List PyData} {i : Nat} {y : Sy}, (zipL cs ds)[i]? = some y → ∃ c d, cs[i]? = some c ∧ ds[i]? = some d ∧ y = .d (.tuple [.str ⟨#[c]⟩, d])
  | [], _, i, y, h => by simp [zipL] at h
  | _ :: _, [], i, y, h => by simp [zipL] at h
  | c :: cs, d :: ds, 0, y, h => ⟨c, d, rfl, rfl, (Option.some.inj h).symm⟩
  | c :: cs, d :: ds, i + 1, y, h => by
    obtain ⟨c', d', h1, h2, h3⟩ := zipL_get (cs := cs) (ds := ds) (i := i) (y := y) h
    exact ⟨c', d', h1, h2, h3⟩
theorem pk_zst {elts : List Expr} {kk : Nat} {tpos : Pos} (C : Cxi X P w K mg base n) (hg : Gl X "zip") (hm : mg "zip" = none) (h : EaK X G M [a, b] fun ys M1 => ∃ (z : Str) (ds : List PyData), ys = [.d (.str z), .d (.tuple ds)] ∧ z.cps.size = ds.length ∧ kl (zipL z.cps.toList ds) M1)
    (hs : starEach [a, b] X.env = (false, eval a X.env) :: starEach [b] X.env := by rfl) (hpl : (backTo pos (starEach [b] X.env)).any (·.1) = false := by rfl) : PitK X G M (.Tuple elts kk tpos) (.Call (.Name "zip" p) [a, b] [] pos) kl := by
  obtain ⟨rfl, rfl, rfl, rfl, rfl, nd, cal, room, own⟩ := C
  refine ⟨_, pi_zst hg hm sA hs hpl, fun σ S H R sa sp q => h.go sa sp fun vs ys M1 S1 H1 ⟨z, ds, ey, hl, h3⟩ e1 sa1 sp1 is1 => ?_⟩
  subst ey
  obtain ⟨v, v2, rfl, i1, i2⟩ := isa2 is1
  obtain ⟨a2, xs, rfl, g1, g2⟩ := is_tup i2
  have ld := dpa_len g2
  have lz : (zipL z.cps.toList ds).length = z.cps.size := by rw [zipL_len (by simpa using hl)]; simp
  refine ⟨z, a2, xs, by rw [is_str i1], same_sqT sp1.sub g1, q _ _ M1 S1 H1 h3 e1 sp1 ⟨fun i S' M H hi e sp => ⟨xs, same_sqT (e.trans sp.sub) g1, by omega, by omega⟩, fun i S' M H hi e sp => ⟨xs, same_sqT (e.trans sp.sub) g1, by omega, by omega⟩, fun i S' M H x H' y hi e sp ⟨T, c, y', e1, e2, e3, e4, e5⟩ => ?_⟩⟩
  obtain ⟨c', d, h5, h6, h7⟩ := zipL_get hi
  obtain ⟨x2, h8, h9⟩ := dpa_get g2 h6
  have h10 := e5 xs (same_sqT (e.trans sp.sub) g1)
  rw [h8] at h10
  cases h10
  have h11 : z.cps[i]? = some c' := by simpa using h5
  rw [h11] at e4
  cases e4
  subst h7 e1 e3
  have n1 := sp.freeS e2
  exact ⟨upd S' T _, same_new n1, sp.put e2, .d (.tup (.inl (.inl upd_same)) (.cons (.str _) (.cons (dp_mono (e.trans (same_new n1)) _ _ h9) .nil)) (List.cons_ne_nil _ _))⟩
end
end Sx
namespace Sx
open PySem PySem.Spec PyProof.Rows L2 L2.DX ClX

section
variable {X : Cx} {P : Program} {w : World} {K : PySem.W.Frag} {mg : Str → Option Value} {base : Heap} {n j : Nat} {G : Ga} {M : Mem} {k : Sy → Mem → Prop} {kb : Bool → Mem → Prop} {ka kl : List Sy → Mem → Prop}
variable {a b c e o tg iter elt : Expr} {es : List Expr} {rest body : List Stmt} {x m : Str} {p p2 p3 pos apos cpos : Pos} {i : Nat} {y z : Sy} {T : Tr} {f : Addr} {ds : List PyData} {d : PyData} {ys zs : List Sy} {D : Tends} {st : Stmt} {g : TG} {bf : Sy → Ga → Ga} {ok : Sy → Prop}

/-! ### dict(()), tuple([]), sorted([]), sorted(d.items()) of an empty d -/
theorem call_dict0 (hc : X.calm = true) : CallR X (.type "dict") (fun xs H Q => ∃ (a : Addr) (o : Obj), xs = [.ref a] ∧ H a = some (.frz o (.tup [])) ∧ o.dict = none ∧ ∀ p, H p = none → Q (.ref p) (upd H p (.dT []))) := by
  intro pins s σ H xs us Q I r q
  obtain ⟨a, o, ex, ha, hd, q⟩ := q
  subst ex
  obtain ⟨u, eu, rx⟩ := vals1 r
  subst eu
  cases rx
  obtain ⟨ho, hz, its, rv, o', ho', hcl, n', hdat⟩ := I.hok a _ ha
  rw [ho] at ho'
  cases ho'
  cases rv
  refine PySem.call_dict_pairs (knd := mixKind X.prog X.w) (kvs := []) (PairArg.tuple a #[] (fun _ => 0) []) (I.ok.hd hc) ⟨⟨o, n', ho, hcl, hd, hdat⟩, rfl, fun j k v h => by simp at h⟩ ?_ (Nat.zero_le _) fun h' tk hd' k => ?_
  · exact ⟨rfl, fun i k v h => by cases (show none = some (k, v) from h)⟩
  · have hm : (s.heap.objs.size == sysModules) = false := beq_eq_false_iff_ne.mpr (Nat.ne_of_gt I.big)
    obtain ⟨od, es, ep, g1, g2, g3, g4, g5, g6⟩ := hd'
    have e0 : es.toList = [] := by
      cases h : es.toList with
      | nil => rfl
      | cons x xs =>
        rw [h] at g5
        exact absurd g5 (by first | exact fun z => z.elim | (intro z; cases z))
    exact ⟨.ref s.heap.objs.size, upd H s.heap.objs.size (.dT []), I.laid (t' := tk) (fun b o e => k b o (by simp) e) (Nat.le_refl _) (show ObjOk X.prog X.w _ _ _ (.dT []) from ⟨Nat.zero_le _, hm, [], .nil, od, es, ep, g1, g2, g3, by rw [e0]; rfl, List.nodup_nil⟩), rfl, q _ (I.hok.fresh (Nat.le_refl _))⟩
theorem ca_dict0 (C : Cxi X P w K mg base n) (q : ∀ a, M a = none → k (.v (.ref a)) (updM M a (.dT 0 fun _ => none))) : CaK X (.type "dict") [.d (.tuple [])] M k :=
  ca_of (call_dict0 C.calm) fun S H xs Q sp is po => by
    obtain ⟨v, rfl, i1⟩ := isa1 is
    cases i1 with
    | d i1 =>
      cases i1 with
      | tup _ _ hn => exact absurd rfl hn
      | tup0 h1 h2 => exact ⟨_, _, rfl, sp.sub _ _ h1, h2, fun l hl => po _ _ _ S _ (q l (sp.freeM hl)) (Same.refl S) (sp.lay hl (.dT (Nat.le_refl _) fun _ => True.intro)) .v⟩
theorem call_tuple0 : CallR X (.type "tuple") (fun xs H Q => ∃ a, xs = [.ref a] ∧ H a = some (.lst []) ∧ ∀ l o, H l = none → o.dict = none → Q (.ref l) (upd H l (.frz o (.tup [])))) := by
  intro pins s σ H xs us Q I r h
  obtain ⟨a, rfl, ha, q⟩ := h
  obtain ⟨u, rfl, rx⟩ := vals1 r
  cases rx
  obtain ⟨its, r', pl, hz⟩ := I.list (.inl (.inl ha))
  cases r'
  refine call_tuple_list pl.isList (fun h' kp => ?_) (by rw [sizeLine_eq]; decide)
  have I1 : Inv X pins σ H { s with heap := h' } := I.kept (t' := s.toks) kp
  have I2 : Inv X pins σ (upd H h'.objs.size (.frz { cls := .type "tuple", data := .seq ([] : List Value).toArray } (.tup []))) { s with heap := h'.push { cls := .type "tuple", data := .seq ([] : List Value).toArray } } :=
    I1.laid (t' := s.toks) (fun b o e => Heap.get?_push_of_some _ e) (Nat.le_refl _) ⟨Heap.get?_push_size _ rfl, Nat.zero_le _, [], .nil, IsTup.new _ _⟩
  exact ⟨.ref h'.objs.size, _, I2, rfl, q _ _ (I1.hok.fresh (Nat.le_refl _)) rfl⟩
theorem ca_tup0 (q : k (.d (.tuple [])) M) : CaK X (.type "tuple") [.sl []] M k :=
  ca_of call_tuple0 fun S H xs Q sp is po => by
    obtain ⟨v, rfl, i1⟩ := isa1 is
    cases i1 with
    | sl h1 h2 =>
      cases h2
      exact ⟨_, rfl, sp.sub _ _ h1, fun l o hl ho => po _ _ M (upd S l (.frz o (.tup []))) _ q (same_new (sp.freeS hl)) (sp.put hl) (.d (.tup0 upd_same ho))⟩
theorem ca_sorted0 (q : k (.sl []) M) : CaK X (.builtin "sorted") [.sl []] M k :=
  ca_of cr_sorted fun S H xs Q sp is po => by
    obtain ⟨v, rfl, i1⟩ := isa1 is
    cases i1 with
    | sl h1 h2 =>
      cases h2
      refine ⟨_, [], rfl, .inl (.inl (sp.sub _ _ h1)), by decide, fun ns' l hp _ hl => ?_⟩
      have e : ns' = [] := List.perm_nil.mp hp
      subst e
      exact po _ _ M (upd S l (.lst [])) _ q (same_new (sp.freeS hl)) (sp.put hl) (.sl upd_same .nil)
theorem call_sortedItems0 (hc : X.calm = true) : CallR X (.builtin "sorted") (fun vs H Q => ∃ p a, vs = [.ref p] ∧ H p = some (itemsO p a) ∧ H a = some (.dT []) ∧ ∀ l, H l = none → Q (.ref l) (upd H l (.lst []))) := by
  intro pins s σ H xs us Q I r h
  obtain ⟨p, a, rfl, hp, ha, q⟩ := h
  obtain rfl := Vals.ref1 r
  have view : s.heap.IsItemsView p a := (show ObjOk X.prog X.w H s.heap p (itemsO p a) from I.hok p _ hp).1
  obtain ⟨z, hd, xs', rel, o, es, ep, ho, hx, hdat, hes, his, hn⟩ := dt_of I.hok ha
  have l1 : ([] : List (List L2.Key × V)).length = xs'.length := Paired.length rel
  have l2 : es.size = xs'.length := size_of_entries hes
  have l3 : es.size = 0 := by rw [l2, ← l1]; rfl
  have hh : X.A.handled = none := I.ok.hd hc
  refine DT.sortedI (es := es) (ep := ep) hh view ⟨o, ho, hx, hdat⟩ (by omega) fun h' tk as hk hlt hl hG => ?_
  have e0 : as = [] := List.length_eq_zero_iff.mp (by omega)
  subst e0
  have hob : (h'.push { cls := .type "list", data := .seq (([] : List Addr).map Value.ref).toArray }).get? h'.objs.size = some (seqObj "list" (([] : List Addr).map Value.ref).toArray 0) := Heap.get?_push_size _ rfl
  have kb : ∀ b o, s.heap.get? b = some o → (h'.push { cls := .type "list", data := .seq (([] : List Addr).map Value.ref).toArray }).get? b = some o := fun b o e => Heap.get?_push_of_some _ (hk b o e)
  have ne0 : ∀ b o, h'.get? b = some o → b ≠ h'.objs.size := fun b o e => Nat.ne_of_lt (Heap.lt_size e)
  generalize hh2 : h'.push { cls := .type "list", data := .seq (([] : List Addr).map Value.ref).toArray } = h2 at hob kb ⊢
  refine wpAny_call_entry PyProof.Rows.slot_list_sort ⟨_, hob, rfl⟩ PyProof.Rows.entry_list_sort
    (SK.plain_sort (s := { s with heap := h2, toks := tk }) (r := fun _ => (0 : Int)) hob (by rw [List.length_map]; decide) (fun h2' Qk hQk => absurd h2' (by simp)) fun ps out o1 o2 o3 => ⟨.none, rfl, ?_⟩) (PyProof.Rows.args_list_sort _)
  show EP X pins σ Q (.ref h'.objs.size) { s with heap := sortedHeap h2 h'.objs.size (([] : List Addr).map Value.ref) out, toks := tk }
  have kF : ∀ b o, b ≠ h'.objs.size → h2.get? b = some o → (sortedHeap h2 h'.objs.size (([] : List Addr).map Value.ref) out).get? b = some o := fun b o hb e => (PyProof.Rows.sortedHeap_old hb (Heap.lt_size e)).trans e
  have kS : ∀ b o, s.heap.get? b = some o → (sortedHeap h2 h'.objs.size (([] : List Addr).map Value.ref) out).get? b = some o := fun b o e => kF b o (ne0 _ _ (hk b o e)) (kb b o e)
  obtain ⟨eF, heF⟩ := PyProof.Rows.sortedHeap_at (vs := ([] : List Addr).map Value.ref) (out := out) hob
  have I1 : Inv X pins σ H { s with heap := sortedHeap h2 h'.objs.size (([] : List Addr).map Value.ref) out, toks := tk } := I.kept (t' := tk) kS
  have hn0 : H h'.objs.size = none := I.hok.fresh (Nat.le_of_lt hlt)
  have eo : out.toList = [] := by
    have e2 := o2.length_eq
    have e3 : ps.length = 0 := by simpa using e2
    rw [o1, List.length_eq_zero_iff.mp e3]
    rfl
  have rv : Vals [] out.toList := by rw [eo]; exact .nil
  have I2 : Inv X pins σ (upd H h'.objs.size (.lst [])) { s with heap := sortedHeap h2 h'.objs.size (([] : List Addr).map Value.ref) out, toks := tk } :=
    I1.take (h' := sortedHeap h2 h'.objs.size (([] : List Addr).map Value.ref) out) (t' := tk) (fun b ob _ e => e) (I.fpOk (Nat.le_of_lt hlt) hn0) ⟨Nat.zero_le _, out.toList, eF, rv, heF⟩
  exact ⟨.ref h'.objs.size, _, I2, rfl, q _ hn0⟩
theorem ev_sortedItems0 {pn : Pos} (C : Cxi X P w K mg base n) (hm : mg "sorted" = none) (hg : Gl X "sorted") (h : EvK X G M o fun y M1 => ∃ (f : Addr) (mm : List Key → Option PyData), y = .v (.ref f) ∧ M1 f = some (.dT 0 mm) ∧ k (.sl []) M1)
    (hbase : attributeBase o "items" X.env (eval o X.env) = eval o X.env := by rfl) (hline : (apos.endLine == cpos.line) = true := by rfl)
    (he : starEach [.Call (.Attribute o "items" apos) [] [] cpos] X.env = (false, eval (.Call (.Attribute o "items" apos) [] [] cpos) X.env) :: starEach [] X.env := by rfl) (hpl : (backTo pos (starEach [] X.env)).any (·.1) = false := by rfl) :
    EvK X G M (.Call (.Name "sorted" pn) [.Call (.Attribute o "items" apos) [] [] cpos] [] pos) k := by
  obtain ⟨rfl, rfl, rfl, rfl, rfl, nd, cal, room, own⟩ := C
  refine ev_of (pe_callB (call_sortedItems0 cal) hg hm PyProof.Rows.boot_sorted (pa_cons (pe_bm0 PySem.F.plainAttrs_dict PySem.F.slot_dict_items PySem.F.type_dict_items mt_itemsT sE hbase hline) pa_nil he) (by decide) (by decide) he hpl) fun σ S H Q sa sp po => h.go sa sp fun v y M1 S1 H1 ⟨f, mm, ey, hm1, h1⟩ e1 sa1 sp1 is1 => ?_
  subst ey
  obtain ⟨_, o1, g1, g2⟩ := sp1.mem f _ hm1
  have ev := is_val is1
  subst ev
  cases g2 with
  | @dT kvs _ _ g2 g3 =>
    cases kvs with
    | cons _ _ => simp at g2
    | nil =>
      refine ⟨.inr (.inr (.inl ⟨rfl, .inr ⟨_, g1⟩⟩)), f, [], rfl, rfl, g1, fun l hl => ?_⟩
      refine ⟨l, f, rfl, upd_same, by rw [upd_ne (ne_of_none g1 hl)]; exact g1, fun l2 hl2 => ?_⟩
      have sp2 : Split X.K S1 M1 (upd H1 l (itemsO l f)) := sp1.grow (same_new hl)
      exact po _ _ M1 (upd S1 l2 (.lst [])) _ h1 (e1.trans (same_new (sp2.freeS hl2))) (sp2.put hl2) (.sl upd_same .nil)

/-! ### C.m(e, ..), a def of the class at C -/
theorem pe_clsCall {X : Cx} {C f : Addr} {fd : FuncData} {ps : List Str} {sp : Sp} {kk : Nat} {mc : Value} {ta : TE} {t : TA} {pl : Sem Bool} (he : PE X o ta) (r : CRead X.K C mc) (kf : PySem.W.findCls X.K (.ref C) mc m = some (.val (.ref f))) (hkp : PySem.W.keepIn X.K (.ref f) = true)
    (F : FnOk X.prog X.w X.K X.mg X.base CX0 kk f fd ps sp) (hr : Room kk X.A) (hb : Binds X.K fd ps []) (ha : PA X (e :: es) t)
    (hst : starEach (e :: es) X.env = (false, eval e X.env) :: starEach es X.env := by rfl) (hpl : (backTo pos (starEach es X.env)).any (·.1) = false := by rfl)
    (ht : eval (.Call (.Attribute o m apos) (e :: es) [] pos) X.env = (do
      let ov ← eval o X.env
      standAt apos.atName
      let (f, first) ← holding [ov] (getMethod ov m pl)
      callWith pos f first (backTo pos (starEach (e :: es) X.env)) (backToKw pos (keywordEach [] X.env))) := by rfl) :
    PE X (.Call (.Attribute o m apos) (e :: es) [] pos) (fun σ H Q => ta σ H fun x H1 => x = .ref C ∧ t σ H1 fun vs H2 => sp vs H2 Q E0) := by
  refine ⟨fun pins s σ H Q I h => ?_⟩
  refine PySem.W.methodCall_KW (pl := pl) (thn (he.run pins s σ H _ I h) fun u s1 ⟨x, H1, I1, rx, ex, q⟩ => ?_) ht
  subst ex
  obtain rfl : u = Value.ref C := rx
  refine PySem.W.method_cls I1.kIn r.ga (PySem.W.cls_value I1.kIn r.rd kf rfl ?_)
  have I1' : Inv X pins σ H1 { s1 with toks := s1.toks + 1 } := I1.tok _
  refine PySem.W.callWith_K (first := []) (h₀ := X.base) I1'.ok.mod.kin hkp (thn (ha.run pos pins _ σ H1 _ I1' q) fun us s2 ⟨vs, H2, I2, r, q2⟩ => ⟨I2.kIn, ?_⟩) hst hpl
  exact run_fn (us := us) (vs := vs) (dvs := []) F hr hb .nil pass0 I2 r (by rw [List.append_nil]; exact q2)
structure Cfn (P : Program) (w : World) (K : PySem.W.Frag) (mg : Str → Option Value) (base : Heap) (C : Addr) (m : Str) (k : Nat) (T : Tr) : Prop where
  ex : ∃ (f : Addr) (fd : FuncData) (ps : List Str) (mc : Value), FnOk P w K mg base CX0 k f fd ps (spT K T) ∧ CRead K C mc ∧ PySem.W.findCls K (.ref C) mc m = some (.val (.ref f)) ∧ PySem.W.keepIn K (.ref f) = true ∧ Binds K fd ps []
theorem ev_clsCall {pl : Sem Bool} {D : Addr} (C : Cxi X P w K mg base n) (F : Cfn P w K mg base D m j T) (hj : j ≤ n)
    (h : EvK X G M o fun y M1 => y = .v (.ref D) ∧ EaK X G M1 (e :: es) fun ys M2 => T ys M2 k)
    (hst : starEach (e :: es) X.env = (false, eval e X.env) :: starEach es X.env := by rfl) (hpl : (backTo pos (starEach es X.env)).any (·.1) = false := by rfl)
    (ht : eval (.Call (.Attribute o m apos) (e :: es) [] pos) X.env = (do
      let ov ← eval o X.env
      standAt apos.atName
      let (f, first) ← holding [ov] (getMethod ov m pl)
      callWith pos f first (backTo pos (starEach (e :: es) X.env)) (backToKw pos (keywordEach [] X.env))) := by rfl) : EvK X G M (.Call (.Attribute o m apos) (e :: es) [] pos) k := by
  obtain ⟨rfl, rfl, rfl, rfl, rfl, nd, cal, room, own⟩ := C
  obtain ⟨f, fd, ps, mc, F, hr, hf, hk, hb⟩ := F.ex
  refine ev_of (pe_clsCall sE hr hf hk F (room.mono hj) hb sA hst hpl ht) fun σ S H Q sa sp po => h.go sa sp fun v y M1 S1 H1 ⟨ey, h1⟩ e1 sa1 sp1 is1 => ?_
  subst ey
  refine ⟨is_val is1, EaK.go h1 sa1 sp1 fun vs ys M2 S2 H2 h4 e2 sa2 sp2 is2 => ?_⟩
  exact ⟨_, S2, M2, k, h4, sp2, is2, po.later (e1.trans e2)⟩

/-! ### {..}[word], a written dict that is asked once -/
/-- a display of three text keys -/
theorem ev_disp3 {k1 k2 k3 : Str} {c1 c2 c3 : Nat} {q1 q2 q3 : Pos} {v1 v2 v3 : Expr} {dp : Pos} (C : Cxi X P w K mg base n) (n12 : k1 ≠ k2) (n13 : k1 ≠ k3) (n23 : k2 ≠ k3)
    (h : ∀ a, M a = none → EvK X G (updM M a (.dK 0 fun _ => none)) v1 fun y1 M1 => EvK X G M1 v2 fun y2 M2 => EvK X G M2 v3 fun y3 M3 => M3 = updM M a (.dK 0 fun _ => none) ∧ ∃ d1 d2 d3 : PyData, y1 = .d d1 ∧ y2 = .d d2 ∧ y3 = .d d3 ∧
      EvK X G M b fun yb M4 => ∃ s : Str, yb = .d (.str s) ∧ ((s = k1 ∧ k (.d d1) M4) ∨ (s = k2 ∧ k (.d d2) M4) ∨ (s = k3 ∧ k (.d d3) M4)))
    (hs : NoSl b := by exact fun _ _ => rfl) : EvK X G M (.Subscript (.Dict [some (.Constant (.str k1) c1 q1), some (.Constant (.str k2) c2 q2), some (.Constant (.str k3) c3 q3)] [v1, v2, v3] dp) b pos) k :=
  ev_of (pe_dget (hu_of C.room) (pe_disp (pps_cons pe_str sE (pps_cons pe_str sE (pps_cons pe_str sE pps_nil))) (by rfl) (by rfl) (fun z => by cases z) (by show 3 ≤ 15; decide)) sE hs) fun σ S H Q sa sp po p hp => by
    have nM := sp.freeM hp
    have sp0 : Split X.K S (updM M p (.dK 0 fun _ => none)) (upd H p (.dK [])) := sp.lay hp (.dK (Nat.le_refl _) fun _ => True.intro)
    refine (h p nM).go sa sp0 fun u1 y1 M1 S1 H1 h1 e1 sa1 sp1 is1 => ?_
    refine EvK.go h1 sa1 sp1 fun u2 y2 M2 S2 H2 h2 e2 sa2 sp2 is2 => ?_
    refine EvK.go h2 sa2 sp2 fun u3 y3 M3 S3 H3 ⟨eM, d1, d2, d3, ey1, ey2, ey3, h3⟩ e3 sa3 sp3 is3 => ?_
    subst eM ey1 ey2 ey3
    obtain ⟨nS, o1, g1, g2⟩ := sp3.mem p _ updM_same
    have i1 := is_mono (e2.trans e3) _ _ is1
    have i2 := is_mono e3 _ _ is2
    cases g2 with
    | @dK kvs _ _ g2 g3 =>
      cases kvs with
      | cons _ _ => simp at g2
      | nil =>
        refine ⟨g1, [(Sum.inr k1, u1), (Sum.inr k2, u2), (Sum.inr k3, u3)], rfl, by show 3 ≤ 15; decide, ?_⟩
        have sp4 : Split X.K S3 (updM M p (.dK 0 fun _ => none)) H3 := sp3
        have em : mergeK [] [((Sum.inr k1 : Key), u1), (Sum.inr k2, u2), (Sum.inr k3, u3)] = putK (putK (putK [] (Sum.inr k1) u1) (Sum.inr k2) u2) (Sum.inr k3) u3 := rfl
        have sp5 : Split X.K (upd S3 p (.dK (mergeK [] [((Sum.inr k1 : Key), u1), (Sum.inr k2, u2), (Sum.inr k3, u3)]))) M (upd H3 p (.dK (mergeK [] [((Sum.inr k1 : Key), u1), (Sum.inr k2, u2), (Sum.inr k3, u3)]))) :=
          ⟨same_upd sp4.sub, fun b t q => by
            have hb : b ≠ p := neM q nM
            obtain ⟨q1, v, q2, q3⟩ := sp4.mem b t (by rw [updM_ne hb]; exact q)
            exact ⟨by rw [upd_ne hb]; exact q1, v, by rw [upd_ne hb]; exact q2, q3.mono (same_new nS)⟩⟩
        refine EvK.go h3 (sa3.mono (same_new nS)) sp5 fun ub yb M5 S5 H5 ⟨s, eb, hc⟩ e5 sa5 sp5' is5 => ?_
        subst eb
        rw [is_str is5]
        have hp5 : H5 p = some (.dK (mergeK [] [((Sum.inr k1 : Key), u1), (Sum.inr k2, u2), (Sum.inr k3, u3)])) := sp5'.sub _ _ (e5 _ _ upd_same)
        have ns : ∀ {a b : Str}, a ≠ b → (Sum.inr a : Key) ≠ Sum.inr b := fun h q => h (Sum.inr.inj q)
        have ex : Same S S5 := (((e1.trans e2).trans e3).trans (same_new nS)).trans e5
        have ey : Same S3 S5 := (same_new nS).trans e5
        rcases hc with ⟨es, hk⟩ | ⟨es, hk⟩ | ⟨es, hk⟩
        · subst es
          refine ⟨p, u1, rfl, .inl ⟨_, Sum.inr s, .inl hp5, rfl, ?_⟩, po _ _ M5 S5 H5 hk ex sp5' (is_mono ey _ _ i1)⟩
          rw [em, valV_put, if_neg (ns n13), valV_put, if_neg (ns n12), valV_put, if_pos rfl]
        · subst es
          refine ⟨p, u2, rfl, .inl ⟨_, Sum.inr s, .inl hp5, rfl, ?_⟩, po _ _ M5 S5 H5 hk ex sp5' (is_mono ey _ _ i2)⟩
          rw [em, valV_put, if_neg (ns n23), valV_put, if_pos rfl]
        · subst es
          refine ⟨p, u3, rfl, .inl ⟨_, Sum.inr s, .inl hp5, rfl, ?_⟩, po _ _ M5 S5 H5 hk ex sp5' (is_mono ey _ _ is3)⟩
          rw [em, valV_put, if_pos rfl]

/-! ### comprehensions -/
theorem sPG0 {X : Cx} {tg : Expr} : PG X tg (fun _ _ _ _ => False) := ⟨fun _ _ _ _ _ _ _ _ _ h => h.elim⟩
theorem sPTs0 {X : Cx} {ifs : List Expr} : PTs X ifs (fun _ _ _ => False) := ⟨fun _ _ _ _ _ _ h => h.elim⟩
theorem sPE0 {X : Cx} {e : Expr} : PE X e (fun _ _ _ => False) := ⟨fun _ _ _ _ _ _ h => h.elim⟩
/-- of nothing: the reading -/
theorem lc0_read {wi : TI} {vs : List Nat} (hw : ∀ (σ : L2.St) (S H : Hp) (R : It → Hp → Prop), Sat X.K G σ S → Split X.K S M H → (∀ (J : It) (items : List Sy) (M' : Mem) (S' H' : Hp), (items = [] ∧ k (.sl []) M') → Same S S' → Split X.K S' M' H' → TIt X.K J items S' → R J H') → wi σ H R)
    {σ : L2.St} {S H : Hp} {Q : VK} (sa : Sat X.K G σ S) (sp : Split X.K S M H) (po : Post X.K S k Q) : tLc wi (fun _ _ _ _ => False) (fun _ _ _ => False) (fun _ _ _ => False) vs σ H Q := by
  refine hw σ S H _ sa sp fun J items M1 S1 H1 ⟨ei, hk⟩ e1 sp1 ti D hD => ?_
  subst ei
  have sp2 := sp1.put (o := .lst []) hD
  have n1 := sp1.freeS hD
  refine ⟨fun i m H' => i = 0 ∧ H' = upd H1 D (.lst []), ⟨0, rfl, rfl⟩, ?_⟩
  rintro i m H' ⟨rfl, rfl⟩
  refine .inl ⟨ti.stop 0 _ M1 _ rfl (same_new n1) sp2, ?_⟩
  exact po _ _ M1 (upd S1 D (.lst [])) _ hk (e1.trans (same_new n1)) sp2 (.sl upd_same .nil)
/-- [.. for .. in nothing] -/
theorem ev_lc0 {ifs : List Expr} {scope : Scope} {own : List (Str × Nat)} {N : List Str} {sc : Scope} (C : Cxi X P w K mg base n) (hN : X.N = N) (hS : X.env.scope = sc) (h : PitK X G M tg iter fun items M1 => items = [] ∧ k (.sl []) M1) (hb : blkC N sc scope own = true)
    (hs : ∀ x, foldedSetIterable iter X.env x = pure x := by intro _; rfl) : EvK X G M (.ListComp elt [⟨tg, iter, ifs, 0⟩] scope pos) k := by
  obtain ⟨wi, hi, hw⟩ := h
  subst hN hS
  exact ev_of (pe_lc C.calm C.nd hi (blkOk_by hb) (fun _ _ _ _ _ => sPG0) (fun _ _ _ _ _ => sPTs0) (fun _ _ _ _ _ => sPE0) hs) fun σ S H Q sa sp po => lc0_read hw sa sp po
theorem ex_setLc0 {py : Pos} {ifs : List Expr} {scope : Scope} {own : List (Str × Nat)} {N : List Str} {sc : Scope} (C : Cxi X P w K mg base n) (hN : X.N = N) (hS : X.env.scope = sc) (s : Slot X i x) (hl : sc.names.lookup x = some .local)
    (h : PitK X G M tg iter fun items M1 => items = [] ∧ ExK X (G.set i (some (.sl []))) M1 rest D) (hb : blkC N sc scope own = true) (hsw : swapsWith (.ListComp elt [⟨tg, iter, ifs, 0⟩] scope pos) (some (.Name x py)) p.line X.env = pure true)
    (hs : ∀ x, foldedSetIterable iter X.env x = pure x := by intro _; rfl) : ExK X G M (.Assign [.Name x py] (.ListComp elt [⟨tg, iter, ifs, 0⟩] scope pos) p :: rest) D := by
  obtain ⟨wi, hi, hw⟩ := h
  subst hN hS
  refine ex_of (ps_setLc C.calm C.nd s.n hl hsw hi (blkOk_by hb) (fun _ _ _ _ _ => sPG0) (fun _ _ _ _ _ => sPTs0) (fun _ _ _ _ _ => sPE0) hs) fun σ S H E sa sp po => ?_
  refine lc0_read (k := fun y M1 => y = .sl [] ∧ ExK X (G.set i (some (.sl []))) M1 rest D) (fun σ S H R sa sp q => hw σ S H R sa sp fun J items M' S' H' ⟨e1, h1⟩ => q J items M' S' H' ⟨e1, rfl, h1⟩) sa sp fun v y M1 S1 H1 ⟨ey, h1⟩ e1 sp1 is1 => ?_
  subst ey
  exact ExK.go h1 ((sa.mono e1).set is1) sp1 (po.later e1)
end
end Sx
namespace Sx
open PySem PySem.Spec PyProof.Rows L2

/-- the names of where a body stands: fb: a cell is the body's own -/
structure At (X : Cx) (N : List Str) (sc : Scope) (fb : Bool) : Prop where
  hN : X.N = N
  hS : X.env.scope = sc
  fn : fb = true → ∀ x, X.fn x = true
def slotC (N : List Str) (sc : Scope) (fb : Bool) (i : Nat) (x : Str) : Bool :=
  decide (N[i]? = some x) && (match sc.names.lookup x with | some .local => true | some .cell => fb | _ => false) && !(x == ("__debug__" : Str)) && !(x == ("__classdict__" : Str))
def seesC (N : List Str) (sc : Scope) (i : Nat) (x : Str) : Bool :=
  decide (N[i]? = some x) && (match sc.names.lookup x with | some .local => true | some .cell => true | some .free => true | _ => false) && !(x == ("__debug__" : Str)) && !(x == ("__classdict__" : Str))
def globC (sc : Scope) (x : Str) : Bool := match sc.names.lookup x with | some .globalImplicit => true | _ => false
theorem At.slot {X : Cx} {N : List Str} {sc : Scope} {fb : Bool} {i : Nat} {x : Str} (A : At X N sc fb) (h : slotC N sc fb i x = true) : Slot X i x := by
  obtain ⟨rfl, rfl, hf⟩ := A
  unfold slotC at h
  simp only [Bool.and_eq_true, decide_eq_true_eq, Bool.not_eq_true'] at h
  obtain ⟨⟨⟨h1, h2⟩, h3⟩, h4⟩ := h
  have q : X.env.scope.names.lookup x = some .local ∨ (X.env.scope.names.lookup x = some .cell ∧ fb = true) := by
    split at h2 <;> first | exact .inl (by assumption) | exact .inr ⟨by assumption, h2⟩ | cases h2
  refine ⟨h1, ?_, ?_, ?_, h3, h4⟩
  · rcases q with q | ⟨q, _⟩
    · exact .inl q
    · exact .inr (.inl q)
  · rcases q with q | ⟨q, _⟩
    · exact .inl q
    · exact .inr q
  · rcases q with q | ⟨_, q⟩
    · exact .inr q
    · exact .inl (hf q x)
theorem At.gl {X : Cx} {N : List Str} {sc : Scope} {fb : Bool} {x : Str} (A : At X N sc fb) (h : globC sc x = true) : Gl X x := by
  obtain ⟨rfl, rfl, hf⟩ := A
  unfold globC at h
  split at h
  · assumption
  · cases h
/-- a name that is only read -/
structure Sees (X : Cx) (i : Nat) (x : Str) : Prop where
  n : X.N[i]? = some x
  vis : Vis X.env.scope x
  dbg : (x == ("__debug__" : Str)) = false
  cd : (x == ("__classdict__" : Str)) = false
theorem At.sees {X : Cx} {N : List Str} {sc : Scope} {fb : Bool} {i : Nat} {x : Str} (A : At X N sc fb) (h : seesC N sc i x = true) : Sees X i x := by
  obtain ⟨rfl, rfl, hf⟩ := A
  unfold seesC at h
  simp only [Bool.and_eq_true, decide_eq_true_eq, Bool.not_eq_true'] at h
  obtain ⟨⟨⟨h1, h2⟩, h3⟩, h4⟩ := h
  refine ⟨h1, ?_, h3, h4⟩
  split at h2 <;> first | exact .inl (by assumption) | exact .inr (.inl (by assumption)) | exact .inr (.inr (by assumption)) | cases h2
theorem ev_sees {X : Cx} {G : Ga} {M : Mem} {x : Str} {p : Pos} {i : Nat} {y : Sy} {k : Sy → Mem → Prop} (s : Sees X i x) (h : G[i]? = some (some y)) (q : k y M) : EvK X G M (.Name x p) k :=
  ev_of (pe_var s.n s.vis s.dbg s.cd) fun σ S H Q sa sp po => let ⟨v, h1, h2⟩ := sa.at_ i y h; ⟨v, h1, po v y M S H q (Same.refl S) sp h2⟩

/-- a comprehension's block -/
def Blk (X X' : Cx) (scope : Scope) : Prop := ∃ (s : Shared) (H : Hp) (C : Addr) (cl : List (Str × Addr)) (fp : List Addr), X' = X.blk s H scope (compEnvC scope cl C X.env) fp
theorem Blk.cxi {X X' : Cx} {scope : Scope} {P : Program} {w : World} {K : PySem.W.Frag} {mg : Str → Option Value} {base : Heap} {n : Nat} (b : Blk X X' scope) (C : Cxi X P w K mg base n) : Cxi X' P w K mg base n := by
  obtain ⟨s, H, c, cl, fp, rfl⟩ := b
  obtain ⟨h1, h2, h3, h4, h5, h6, h7, h8, h9⟩ := C
  exact ⟨h1, h2, h3, h4, h5, h6, h7, h8, PassesOwn.never⟩
theorem Blk.at {X X' : Cx} {scope : Scope} {N : List Str} {sc : Scope} {fb : Bool} (b : Blk X X' scope) (A : At X N sc fb) : At X' N (relS scope sc) false := by
  obtain ⟨s, H, c, cl, fp, rfl⟩ := b
  obtain ⟨rfl, rfl, hf⟩ := A
  exact ⟨rfl, rfl, fun h => nomatch h⟩
theorem Blk.k {X X' : Cx} {scope : Scope} (b : Blk X X' scope) : X'.K = X.K := by
  obtain ⟨s, H, c, cl, fp, rfl⟩ := b
  rfl
def semB (X : Cx) (scope : Scope) (e : Expr) : TE := fun σ H Q => ∀ X', Blk X X' scope → semE X' e σ H Q
section
variable {X : Cx} {P : Program} {w : World} {K : PySem.W.Frag} {mg : Str → Option Value} {base : Heap} {n j : Nat} {G : Ga} {M : Mem} {k : Sy → Mem → Prop} {kb : Bool → Mem → Prop} {ka : List Sy → Mem → Prop}
variable {a b c e o elt iter : Expr} {es : List Expr} {rest body : List Stmt} {x m : Str} {p p2 p3 pos apos cpos : Pos} {i : Nat} {y z : Sy} {T : Tr} {f : Addr} {ds : List PyData} {d : PyData} {ys zs : List Sy} {D : Tends} {st : Stmt} {N : List Str} {sc scope : Scope} {fb : Bool} {gf : Sy → Sy}
theorem wipe1 {σ : L2.St} : wipe σ [i] = σ.set i none := rfl
/-- what a list's block needs of its items -/
structure LcP (X : Cx) (G : Ga) (i : Nat) (scope : Scope) (elt : Expr) (gf : Sy → Sy) (items : List Sy) : Prop where
  len : items.length ≤ 1000
  each : ∀ X', Blk X X' scope → ∀ y ∈ items, ∀ M', EvK X' (G.set i (some y)) M' elt fun z M2 => z = gf y ∧ M2 = M'
theorem lc_readM {wi : TI} (hw : ∀ (σ : L2.St) (S H : Hp) (R : It → Hp → Prop), Sat X.K G σ S → Split X.K S M H → (∀ (J : It) (items : List Sy) (M' : Mem) (S' H' : Hp), (LcP X G i scope elt gf items ∧ ∀ a, M' a = none → k (.v (.ref a)) (updM M' a (.lst (items.map gf)))) → Same S S' → Split X.K S' M' H' → TIt X.K J items S' → R J H') → wi σ H R)
    {σ : L2.St} {S H : Hp} {Q : VK} (sa : Sat X.K G σ S) (sp : Split X.K S M H) (po : Post X.K S k Q) : tLc wi (gName i) tYes (semB X scope elt) [i] σ H Q := by
  refine hw σ S H _ sa sp fun J items M1 S1 H1 ⟨⟨hl, hE⟩, hk⟩ e1 sp1 ti D hD => ?_
  have nM := sp1.freeM hD
  have sp2 : Split X.K S1 (updM M1 D (.lst [])) (upd H1 D (.lst [])) := sp1.lay hD (.lst .nil)
  refine ⟨fun t m H' => m = items.length - t ∧ t ≤ items.length ∧ ∃ S', Same S1 S' ∧ Split X.K S' (updM M1 D (.lst ((items.take t).map gf))) H', ⟨items.length, by simp, Nat.zero_le _, S1, Same.refl _, by simpa using sp2⟩, ?_⟩
  rintro t m H2 ⟨rfl, ht, S2, e2, sp3⟩
  by_cases hlt : t < items.length
  · refine .inr ⟨ti.go t S2 _ H2 hlt e2 sp3, fun H' => ∃ S', Same S1 S' ∧ Split X.K S' (updM M1 D (.lst ((items.take (t + 1)).map gf))) H', fun H' h => ⟨items.length - (t + 1), by omega, rfl, hlt, h⟩, fun x H' hy => ?_⟩
    obtain ⟨S3, e3, sp4, is3⟩ := ti.yld t S2 _ H2 x H' items[t] (List.getElem?_eq_getElem hlt) e2 sp3 hy
    show wipe ((wipe σ [i]).set i (some x)) [i] = wipe σ [i] ∧ tYes ((wipe σ [i]).set i (some x)) H' _
    have ew : (σ.set i none).set i (some x) = σ.set i (some x) := List.set_set ..
    rw [wipe1, wipe1, ew]
    refine ⟨List.set_set .., ?_⟩
    unfold tYes
    refine iteT ?_
    intro X' hX'
    have kx := hX'.k
    have sa3 : Sat X'.K (G.set i (some items[t])) (σ.set i (some x)) S3 := by
      rw [kx]
      exact (sa.mono ((e1.trans e2).trans e3)).set is3
    have hE1 := hE X' hX' items[t] (List.getElem_mem hlt) (updM M1 D (.lst ((items.take t).map gf)))
    have sp4' : Split X'.K S3 (updM M1 D (.lst ((items.take t).map gf))) H' := by rw [kx]; exact sp4
    refine EvK.go hE1 sa3 sp4' fun v z M' S' H3 hzz e4 sa4 sp5 is5 => ?_
    obtain ⟨ez, eM⟩ := hzz
    subst ez eM
    rw [kx] at sp5 is5
    obtain ⟨nS, o, g1, g2⟩ := sp5.mem D _ updM_same
    cases g2 with
    | @lst acc _ g2 =>
      have la := isa_len g2
      refine ⟨acc, g1, ?_, S', ((e2.trans e3).trans e4), ?_⟩
      · rw [la, List.length_map, List.length_take]
        exact small1000 (by omega)
      · have sp6 := sp5.set updM_same (.lst (isa_append g2 (.cons is5 .nil)))
        rw [updM_updM] at sp6
        rw [List.take_add_one, List.getElem?_eq_getElem hlt, List.map_append]
        exact sp6
  · have e : t = items.length := by omega
    subst e
    rw [List.take_length] at sp3
    exact .inl ⟨ti.stop _ S2 _ H2 rfl e2 sp3, po _ _ _ S2 H2 (hk D nM) (e1.trans e2) sp3 .v⟩
theorem lc_read {wi : TI} (hw : ∀ (σ : L2.St) (S H : Hp) (R : It → Hp → Prop), Sat X.K G σ S → Split X.K S M H → (∀ (J : It) (items : List Sy) (M' : Mem) (S' H' : Hp), (LcP X G i scope elt gf items ∧ k (.sl (items.map gf)) M') → Same S S' → Split X.K S' M' H' → TIt X.K J items S' → R J H') → wi σ H R)
    {σ : L2.St} {S H : Hp} {Q : VK} (sa : Sat X.K G σ S) (sp : Split X.K S M H) (po : Post X.K S k Q) : tLc wi (gName i) tYes (semB X scope elt) [i] σ H Q := by
  refine lc_readM (k := fun y M1 => ∃ (a : Addr) (ys : List Sy) (M0 : Mem), y = .v (.ref a) ∧ M1 = updM M0 a (.lst ys) ∧ M0 a = none ∧ k (.sl ys) M0) (fun σ S H R sa sp q => hw σ S H R sa sp fun J items M' S' H' ⟨e1, h1⟩ => q J items M' S' H' ⟨e1, fun a ha => ⟨a, _, M', rfl, rfl, ha, h1⟩⟩) sa sp fun v y M1 S1 H1 ⟨a, ys, M0, ey, eM, hn, h1⟩ e1 sp1 is1 => ?_
  subst ey eM
  have ev := is_val is1
  subst ev
  obtain ⟨o, h2, h3, h4, h5⟩ := sp1.freeze hn
  cases h2 with
  | @lst xs _ h2 => exact po _ _ M0 _ H1 h1 (e1.trans h4) h5 (.sl upd_same (isa_mono h4 _ _ h2))
theorem blk_slot {X X' : Cx} {N : List Str} {sc scope : Scope} {fb : Bool} (A : At X N sc fb) (b : Blk X X' scope) (h : slotC N (relS scope sc) false i x = true) : Slot X' i x := (b.at A).slot h
/-- [elt for x in iter] -/
theorem ev_lc (gf : Sy → Sy) (i : Nat) (C : Cxi X P w K mg base n) (A : At X N sc fb) (h : PitK X G M (.Name x p) iter fun items M1 => LcP X G i scope elt gf items ∧ k (.sl (items.map gf)) M1)
    (hb : blkC N sc scope [(x, i)] = true := by decide +kernel) (hsl : slotC N (relS scope sc) false i x = true := by decide +kernel)
    (hs : ∀ x, foldedSetIterable iter X.env x = pure x := by intro _; rfl) : EvK X G M (.ListComp elt [⟨.Name x p, iter, [], 0⟩] scope pos) k := by
  obtain ⟨wi, hi, hw⟩ := h
  have A' := A
  obtain ⟨hN, hS, _⟩ := A
  subst hN hS
  refine ev_of (pe_lc (g := gName i) (tt := tYes) (te := semB X scope elt) C.calm C.nd hi (blkOk_by hb) (fun s H c cl fp => ?_) (fun _ _ _ _ _ => pts_nil) (fun s H c cl fp => ?_) hs) fun σ S H Q sa sp po => lc_read hw sa sp po
  · have sl := blk_slot A' ⟨s, H, c, cl, fp, rfl⟩ hsl
    exact pg_name C.nd sl.n sl.loc sl.fn
  · exact ⟨fun pins s1 σ H1 Q I h => h _ ⟨s, H, c, cl, fp, rfl⟩ pins s1 I⟩
theorem ex_setLc {y : Str} {i2 : Nat} {py : Pos} (gf : Sy → Sy) (i : Nat) (C : Cxi X P w K mg base n) (A : At X N sc fb) (s2 : Slot X i2 y) (hl : sc.names.lookup y = some .local)
    (h : PitK X G M (.Name x p) iter fun items M1 => LcP X G i scope elt gf items ∧ ∀ a, M1 a = none → ExK X (G.set i2 (some (.v (.ref a)))) (updM M1 a (.lst (items.map gf))) rest D)
    (hsw : swapsWith (.ListComp elt [⟨.Name x p, iter, [], 0⟩] scope pos) (some (.Name y py)) p2.line X.env = pure true)
    (hb : blkC N sc scope [(x, i)] = true := by decide +kernel) (hsl : slotC N (relS scope sc) false i x = true := by decide +kernel)
    (hs : ∀ x, foldedSetIterable iter X.env x = pure x := by intro _; rfl) : ExK X G M (.Assign [.Name y py] (.ListComp elt [⟨.Name x p, iter, [], 0⟩] scope pos) p2 :: rest) D := by
  obtain ⟨wi, hi, hw⟩ := h
  have A' := A
  obtain ⟨hN, hS, _⟩ := A
  subst hN hS
  refine ex_of (ps_setLc (g := gName i) (tt := tYes) (te := semB X scope elt) C.calm C.nd s2.n hl hsw hi (blkOk_by hb) (fun s H c cl fp => ?_) (fun _ _ _ _ _ => pts_nil) (fun s H c cl fp => ?_) hs) fun σ S H E sa sp po => ?_
  · have sl := blk_slot A' ⟨s, H, c, cl, fp, rfl⟩ hsl
    exact pg_name C.nd sl.n sl.loc sl.fn
  · exact ⟨fun pins s1 σ H1 Q I h => h _ ⟨s, H, c, cl, fp, rfl⟩ pins s1 I⟩
  · refine lc_readM (k := fun y M1 => ∃ (a : Addr), y = .v (.ref a) ∧ ExK X (G.set i2 (some (.v (.ref a)))) M1 rest D) (fun σ S H R sa sp q => hw σ S H R sa sp fun J items M' S' H' ⟨e1, h1⟩ => q J items M' S' H' ⟨e1, fun a ha => ⟨a, rfl, h1 a ha⟩⟩) sa sp fun v y M1 S1 H1 ⟨a, ey, h1⟩ e1 sp1 is1 => ?_
    subst ey
    exact ExK.go h1 ((sa.mono e1).set is1) sp1 (po.later e1)
end

/-! ### defs -/
def startG (N : List Str) (ys : List Sy) : Ga := ys.map some ++ List.replicate (N.length - ys.length) none
theorem sat_start {K : PySem.W.Frag} {N : List Str} {vs : List V} {ys : List Sy} {S : Hp} (h : IsA K S vs ys) : Sat K (startG N ys) (L2.start N vs) S := by
  have hl := isa_len h
  unfold startG L2.start
  refine ⟨by simp [hl], fun i y q => ?_⟩
  by_cases hi : i < ys.length
  · rw [List.getElem?_append_left (by simpa using hi)] at q
    rw [List.getElem?_append_left (by simpa [hl] using hi)]
    rw [List.getElem?_map] at q ⊢
    obtain ⟨y', h1, h2⟩ := Option.map_eq_some_iff.mp q
    cases h2
    obtain ⟨x, h3, h4⟩ := isa_get h h1
    exact ⟨x, by rw [h3]; rfl, h4⟩
  · rw [List.getElem?_append_right (by simp; omega)] at q
    rw [List.getElem?_replicate] at q
    split at q <;> cases q
theorem def_ok {P : Program} {w : World} {K : PySem.W.Frag} {mg : Str → Option Value} {base : Heap} {x qual : Str} {params : Arguments} {body : List Stmt} {scope : Scope} {f : Addr} {fd : FuncData} {N ps : List Str} {n : Nat} {T : Tr}
    (F : FunD K x qual params body scope [] [] f fd) (S : FnScope N ps scope) (len : ∀ ys M k, T ys M k → ys.length = ps.length)
    (h : ∀ X : Cx, Cxi X P w K mg base n → At X N scope true → ∀ ys M k, T ys M k → ExK X (startG N ys) M body { nx := fun _ M' => k (.d .none) M', rt := k }) : FnOk P w K mg base CX0 (n + 1) f fd ps (spT K T) := by
  refine F.ok S (fun vs H Q E ⟨ys, S1, M, k, h1, _, h2, _⟩ => by rw [isa_len h2]; exact len ys M k h1) fun cdv A outer s H vs Q E hr ⟨ys, S1, M, k, h1, h2, h3, h4⟩ => ?_
  refine ⟨semS (cxOf CX0 P w K mg base N qual scope f cdv A outer s H E).nox body, PSs.nox sS, ?_⟩
  have C : Cxi (cxOf CX0 P w K mg base N qual scope f cdv A outer s H E).nox P w K mg base n := ⟨rfl, rfl, rfl, rfl, rfl, S.nd, rfl, hr, PassesOwn.never⟩
  have At' : At (cxOf CX0 P w K mg base N qual scope f cdv A outer s H E).nox N scope true := ⟨rfl, rfl, fun _ _ => rfl⟩
  refine (h _ C At' ys M k h1) (L2.start N vs) S1 H _ (sat_start h3) h2 ⟨fun G' σ' M' S' H' hk e1 sa sp => h4 .non _ M' S' H' hk e1 sp (.d .non), h4, fun _ _ _ _ _ h => h.elim, fun _ _ _ _ _ h => h.elim⟩
end Sx
namespace Sx
open PySem PySem.Spec PyProof.Rows L2

/-- less of the memory -/
def Sub (M0 M1 : Mem) : Prop := ∀ a t, M0 a = some t → M1 a = some t
theorem Sub.refl (M : Mem) : Sub M M := fun _ _ h => h
theorem Sub.trans {M0 M1 M2 : Mem} (h : Sub M0 M1) (h2 : Sub M1 M2) : Sub M0 M2 := fun a t q => h2 a t (h a t q)
theorem Sub.upd {M : Mem} {a : Addr} {t : TO} (h : M a = none) : Sub M (updM M a t) := fun b u q => by rw [updM_ne (neM q h)]; exact q
theorem Split.less {K : PySem.W.Frag} {S H : Hp} {M0 M1 : Mem} (s : Split K S M1 H) (h : Sub M0 M1) : Split K S M0 H := ⟨s.sub, fun a t q => s.mem a t (h a t q)⟩
/-- what a value may be taken as -/
inductive Fz (k : Sy → Mem → Prop) : Sy → Mem → Prop
  | is {y : Sy} {M : Mem} : k y M → Fz k y M
  | less {y : Sy} {M0 M1 : Mem} : Sub M0 M1 → Fz k y M0 → Fz k y M1
  | dK {a : Addr} {n : Nat} {m : Key → Option PyData} {M : Mem} : M a = none → Fz k (.dk n m) M → Fz k (.v (.ref a)) (updM M a (.dK n m))
  | lst {a : Addr} {ys : List Sy} {M : Mem} : M a = none → Fz k (.sl ys) M → Fz k (.v (.ref a)) (updM M a (.lst ys))
theorem Fz.drop {k : Sy → Mem → Prop} {y : Sy} {M : Mem} {a : Addr} {t : TO} (h : M a = none) (q : Fz k y M) : Fz k y (updM M a t) := .less (.upd h) q
theorem Fz.post {K : PySem.W.Frag} {S : Hp} {k : Sy → Mem → Prop} {Q : VK} (po : Post K S k Q) : Post K S (Fz k) Q := by
  intro v y M S1 H h
  revert v S1 H
  induction h with
  | is h => exact fun v S1 H e1 sp is1 => po v _ _ S1 H h e1 sp is1
  | less hs _ ih => exact fun v S1 H e1 sp is1 => ih v S1 H e1 (sp.less hs) is1
  | dK hn _ ih =>
    intro v S1 H e1 sp is1
    have ev := is_val is1
    subst ev
    obtain ⟨o, h2, h3, h4, h5⟩ := sp.freeze hn
    cases h2 with
    | @dK kvs _ _ g1 g2 => exact ih _ _ H (e1.trans h4) h5 (.dk upd_same g1 fun q => dm_mono h4 (g2 q))
  | lst hn _ ih =>
    intro v S1 H e1 sp is1
    have ev := is_val is1
    subst ev
    obtain ⟨o, h2, h3, h4, h5⟩ := sp.freeze hn
    cases h2 with
    | lst g => exact ih _ _ H (e1.trans h4) h5 (.sl upd_same (isa_mono h4 _ _ g))
theorem def_okF {P : Program} {w : World} {K : PySem.W.Frag} {mg : Str → Option Value} {base : Heap} {x qual : Str} {params : Arguments} {body : List Stmt} {scope : Scope} {f : Addr} {fd : FuncData} {N ps : List Str} {n : Nat} {T : Tr}
    (F : FunD K x qual params body scope [] [] f fd) (S : FnScope N ps scope) (len : ∀ ys M k, T ys M k → ys.length = ps.length)
    (h : ∀ X : Cx, Cxi X P w K mg base n → At X N scope true → ∀ ys M k, T ys M k → ExK X (startG N ys) M body { nx := fun _ M' => Fz k (.d .none) M', rt := Fz k }) : FnOk P w K mg base CX0 (n + 1) f fd ps (spT K T) := by
  refine F.ok S (fun vs H Q E ⟨ys, S1, M, k, h1, _, h2, _⟩ => by rw [isa_len h2]; exact len ys M k h1) fun cdv A outer s H vs Q E hr ⟨ys, S1, M, k, h1, h2, h3, h4⟩ => ?_
  refine ⟨semS (cxOf CX0 P w K mg base N qual scope f cdv A outer s H E).nox body, PSs.nox sS, ?_⟩
  have C : Cxi (cxOf CX0 P w K mg base N qual scope f cdv A outer s H E).nox P w K mg base n := ⟨rfl, rfl, rfl, rfl, rfl, S.nd, rfl, hr, PassesOwn.never⟩
  have At' : At (cxOf CX0 P w K mg base N qual scope f cdv A outer s H E).nox N scope true := ⟨rfl, rfl, fun _ _ => rfl⟩
  have h4' := Fz.post h4
  refine (h _ C At' ys M k h1) (L2.start N vs) S1 H _ (sat_start h3) h2 ⟨fun G' σ' M' S' H' hk e1 sa sp => h4' .non _ M' S' H' hk e1 sp (.d .non), h4', fun _ _ _ _ _ h => h.elim, fun _ _ _ _ _ h => h.elim⟩

/-- a built-in def, a built-in class -/
structure Bfn (mg : Str → Option Value) (x : Str) (id : String) : Prop where
  hm : mg x = none
  hv : bootBuiltins x = some (.builtin id)
  hn : x ≠ "__name__"
  hd : (x == ("__debug__" : Str)) = false
structure Bty (mg : Str → Option Value) (x : Str) (t : String) : Prop where
  hm : mg x = none
  hv : bootBuiltins x = some (.type t)
  hn : x ≠ "__name__"
  hd : (x == ("__debug__" : Str)) = false
theorem ifT {c : Bool} {A B : Prop} (h : c = true) (q : A) : if c = true then A else B := by rw [if_pos h]; exact q
theorem ifF {c : Bool} {A B : Prop} (h : c = false) (q : B) : if c = true then A else B := by rw [h, if_neg Bool.false_ne_true]; exact q
theorem ifB {c : Bool} {A B : Prop} (h1 : c = true → A) (h2 : c = false → B) : if c = true then A else B := by
  cases c with
  | true => rw [if_pos rfl]; exact h1 rfl
  | false => rw [if_neg Bool.false_ne_true]; exact h2 rfl
section
variable {X : Cx} {P : Program} {w : World} {K : PySem.W.Frag} {mg : Str → Option Value} {base : Heap} {n j : Nat} {G : Ga} {M : Mem} {k : Sy → Mem → Prop} {kb : Bool → Mem → Prop} {ka : List Sy → Mem → Prop}
variable {a b c e o elt iter : Expr} {es : List Expr} {rest body : List Stmt} {x m : Str} {p p2 p3 pos apos cpos : Pos} {i : Nat} {y z : Sy} {T : Tr} {f : Addr} {ds : List PyData} {d : PyData} {ys zs : List Sy} {D : Tends} {st : Stmt}
/-- a op b op' c -/
theorem ev_chain {op op' : CmpOp} (h : EvK X G M a fun y1 M1 => EvK X G M1 b fun y2 M2 => OpK X (compareOp op) y1 y2 M2 (KB fun t M3 => if t = true then EvK X G M3 c fun y3 M4 => OpK X (compareOp op') y2 y3 M4 k else k (.d (.bool false)) M3))
    (hm : lastMarks [op, op'] [b, c] = false := by with_unfolding_all rfl) : EvK X G M (.Compare a [op, op'] [b, c] pos) k :=
  ev_of (pe_chain sR sR sE sE sE hm) fun σ S H Q sa sp po => h.go sa sp fun v y1 M1 S1 H1 h1 e1 sa1 sp1 is1 => h1.go sa1 sp1 fun v2 y2 M2 S2 H2 h2 e2 sa2 sp2 is2 =>
    h2 S2 H2 v v2 _ sp2 (is_mono e2 _ _ is1) is2 fun v3 y3 M3 S3 H3 ⟨t, ey, h3⟩ e3 sp3 is3 => by
      subst ey
      refine ⟨t, is_bool is3, ?_⟩
      cases t with
      | false => exact iteF (po _ _ M3 S3 H3 h3 ((e1.trans e2).trans e3) sp3 (.d (.bl false)))
      | true =>
        refine iteT (EvK.go h3 (sa2.mono e3) sp3 fun v4 y4 M4 S4 H4 h4 e4 sa4 sp4 is4 => ?_)
        exact h4 S4 H4 v2 v4 Q sp4 (is_mono (e3.trans e4) _ _ is2) is4 (po.later (((e1.trans e2).trans e3).trans e4))
theorem te_chain {op op' : CmpOp} (h : EvK X G M a fun y1 M1 => EvK X G M1 b fun y2 M2 => OpK X (compareOp op) y1 y2 M2 (KB fun t M3 => if t = true then EvK X G M3 c fun y3 M4 => OpK X (compareOp op') y2 y3 M4 (KB kb) else kb false M3))
    (hm : lastMarks [op, op'] [b, c] = false := by with_unfolding_all rfl) : TeK X G M (.Compare a [op, op'] [b, c] pos) kb :=
  te_of (pt_chain sR sR sE sE sE hm) fun σ S H Q sa sp po => h.go sa sp fun v y1 M1 S1 H1 h1 e1 sa1 sp1 is1 => h1.go sa1 sp1 fun v2 y2 M2 S2 H2 h2 e2 sa2 sp2 is2 =>
    h2 S2 H2 v v2 _ sp2 (is_mono e2 _ _ is1) is2 fun v3 y3 M3 S3 H3 ⟨t, ey, h3⟩ e3 sp3 is3 => by
      subst ey
      refine ⟨t, is_bool is3, ?_⟩
      cases t with
      | false => exact iteF ⟨false, rfl, po _ M3 S3 H3 h3 ((e1.trans e2).trans e3) sp3⟩
      | true =>
        refine iteT (EvK.go h3 (sa2.mono e3) sp3 fun v4 y4 M4 S4 H4 h4 e4 sa4 sp4 is4 => ?_)
        refine h4 S4 H4 v2 v4 _ sp4 (is_mono (e3.trans e4) _ _ is2) is4 fun v5 y5 M5 S5 H5 ⟨c5, ey5, h5⟩ e5 sp5 is5 => ?_
        subst ey5
        exact ⟨c5, is_bool is5, po c5 M5 S5 H5 h5 ((((e1.trans e2).trans e3).trans e4).trans e5) sp5⟩
theorem it_tupI {l : Int} {i : Nat} (hl : l = (i : Nat)) (hd : ds[i]? = some d) (q : k (.d d) M) : ItK X (.d (.tuple ds)) (.d (.int l)) M k := by subst hl; exact it_tup hd q
theorem it_slI {l : Int} {i : Nat} (hl : l = (i : Nat)) (hd : ys[i]? = some y) (q : k y M) : ItK X (.sl ys) (.d (.int l)) M k := by subst hl; exact it_sl hd q
theorem it_memI {l : Int} {i : Nat} (hl : l = (i : Nat)) (hm : M f = some (.lst ys)) (hd : ys[i]? = some y) (q : k y M) : ItK X (.v (.ref f)) (.d (.int l)) M k := by subst hl; exact it_mem hm hd q
theorem ca_isI {t : String} {bb : Bool} {l : Int} (e : PySem.W.kitOne X.K (.type "int") (.type t) = some bb) (q : k (.d (.bool bb)) M) : CaK X (.builtin "isinstance") [.d (.int l), .v (.ty t)] M k :=
  ca_isi (d := .int l) e q (by show ("int" : String) ≠ "dict"; decide) (by show ("int" : String) ≠ "NoneType"; decide)
theorem ca_isS {t : String} {bb : Bool} {l : Str} (e : PySem.W.kitOne X.K (.type "str") (.type t) = some bb) (q : k (.d (.bool bb)) M) : CaK X (.builtin "isinstance") [.d (.str l), .v (.ty t)] M k :=
  ca_isi (d := .str l) e q (by show ("str" : String) ≠ "dict"; decide) (by show ("str" : String) ≠ "NoneType"; decide)
theorem ca_isT {t : String} {bb : Bool} (e : PySem.W.kitOne X.K (.type "tuple") (.type t) = some bb) (q : k (.d (.bool bb)) M) : CaK X (.builtin "isinstance") [.d (.tuple ds), .v (.ty t)] M k :=
  ca_isi (d := .tuple ds) e q (by show ("tuple" : String) ≠ "dict"; decide) (by show ("tuple" : String) ≠ "NoneType"; decide)
theorem ev_cB {id : String} (C : Cxi X P w K mg base n) (B : Bfn mg x id) (hg : Gl X x) (h : EaK X G M (e :: es) fun ys M1 => CaK X (.builtin id) ys M1 k)
    (he : starEach (e :: es) X.env = (false, eval e X.env) :: starEach es X.env) (hpl : (backTo pos (starEach es X.env)).any (·.1) = false) : EvK X G M (.Call (.Name x p) (e :: es) [] pos) k := ev_callB C B.hm hg B.hv h B.hn B.hd he hpl
theorem ev_cT {t : String} (C : Cxi X P w K mg base n) (B : Bty mg x t) (hg : Gl X x) (h : EaK X G M (e :: es) fun ys M1 => CaK X (.type t) ys M1 k)
    (he : starEach (e :: es) X.env = (false, eval e X.env) :: starEach es X.env) (hpl : (backTo pos (starEach es X.env)).any (·.1) = false) : EvK X G M (.Call (.Name x p) (e :: es) [] pos) k := ev_callT C B.hm hg B.hv h B.hn B.hd he hpl
theorem ev_tyB {t : String} (C : Cxi X P w K mg base n) (B : Bty mg x t) (hg : Gl X x) (q : k (.v (.ty t)) M) : EvK X G M (.Name x p) k := ev_ty C B.hm hg B.hv q B.hn B.hd
theorem ex_open (h : body = st :: rest) (q : ExK X G M (st :: rest) D) : ExK X G M body D := by rw [h]; exact q
theorem kb_i {c : Bool} (q : kb c M) : KB kb (.d (.bool c)) M := ⟨c, rfl, q⟩
theorem exd_i {q : PyData → Prop} (h : q d) : ∃ d', Sy.d d = .d d' ∧ q d' := ⟨d, rfl, h⟩
theorem gl_of {N : List Str} {sc : Scope} {fb : Bool} (A : At X N sc fb) (h : globC sc x = true) : Gl X x := A.gl h
end
end Sx

namespace Sx
open PySem PySem.Spec PyProof.Rows L2
/-- a def of the top -/
def Fd (K : PySem.W.Frag) (mg : Str → Option Value) (x : Str) (i : Nat) : Prop := mg x = some (.ref (He.ga K x)) ∧ ∃ fd, FunD K x x (defArgs (top i)) (defBody (top i)) (defScope (top i)) [] [] (He.ga K x) fd
/-- a method -/
def Md (K : PySem.W.Frag) (C m q : Str) (st : Stmt) : Prop := Meth K (He.ga K C) m (He.ma K (He.ga K C) m) ∧ ∃ fd, FunD K m q (defArgs st) (defBody st) (defScope st) [] [] (He.ma K (He.ga K C) m) fd
structure Fx (w : World) (K : PySem.W.Frag) (mg : Str → Option Value) : Prop where
  b_isinstance : mg "isinstance" = none
  b_len : mg "len" = none
  b_all : mg "all" = none
  b_range : mg "range" = none
  b_sorted : mg "sorted" = none
  b_sum : mg "sum" = none
  b_enumerate : mg "enumerate" = none
  b_zip : mg "zip" = none
  b_max : mg "max" = none
  b_dict : mg "dict" = none
  b_tuple : mg "tuple" = none
  b_list : mg "list" = none
  b_int : mg "int" = none
  b_str : mg "str" = none
  b_bool : mg "bool" = none
  g_MOST_LETTERS : Gvl K mg "MOST_LETTERS" (.d (.int 8))
  g_MOST_SIZE : Gvl K mg "MOST_SIZE" (.d (.int 12))
  g_MOST_NUMBER : Gvl K mg "MOST_NUMBER" (.d (.int 99))
  g_LARGE_rows : Gvl K mg "LARGE_rows" (.d (.int 1000000000000))
  g_LARGE_runs : Gvl K mg "LARGE_runs" (.d (.int 1000000000000))
  g_MOST_ROWS : Gvl K mg "MOST_ROWS" (.d (.int 12))
  g_MOST_NODES : Gvl K mg "MOST_NODES" (.d (.int 40))
  g_MOST_ABOVE : Gvl K mg "MOST_ABOVE" (.d (.int 7))
  g_MOST_NUMBERS : Gvl K mg "MOST_NUMBERS" (.d (.int 1000))
  g_LETTERS : Gvl K mg "LETTERS" (.d (.str "abcdefghijklmnopqrstuvwxyz"))
  g_WHOLE : Gvl K mg "WHOLE" (.d (.tuple [.str "whole"]))
  g_RECKONED : Gvl K mg "RECKONED" (.d (.tuple [.str "plus", .str "minus", .str "times", .str "less", .str "same"]))
  g_SHAPES : Gvl K mg "SHAPES" (.v (.ref (He.ga K "SHAPES")))
  g_LOOKS : Gvl K mg "LOOKS" (.v (.ref (He.ga K "LOOKS")))
  g_DEEDS : Gvl K mg "DEEDS" (.v (.ref (He.ga K "DEEDS")))
  g_WAYS : Gvl K mg "WAYS" (.v (.ref (He.ga K "WAYS")))
  f_is_whole : Fd K mg "is_whole" 14
  f_is_name : Fd K mg "is_name" 15
  f_is_length : Fd K mg "is_length" 17
  f_of_number : Fd K mg "of_number" 18
  f_added : Fd K mg "added" 20
  f_less : Fd K mg "less" 22
  f_worth : Fd K mg "worth" 24
  f_names_of : Fd K mg "names_of" 25
  f_noughts : Fd K mg "noughts" 26
  f_exceeding : Fd K mg "exceeding" 28
  f_is_small : Fd K mg "is_small" 33
  f_parts_told : Fd K mg "parts_told" 34
  f_is_kind : Fd K mg "is_kind" 35
  f_within : Fd K mg "within" 36
  f_has_length : Fd K mg "has_length" 37
  f_held : Fd K mg "held" 42
  f_is_number : Fd K mg "is_number" 51
  f_is_reckoned : Fd K mg "is_reckoned" 53
  f_parts_of : Fd K mg "parts_of" 56
  f_is_node : Fd K mg "is_node" 57
  f_is_expression : Fd K mg "is_expression" 58
  f_is_row : Fd K mg "is_row" 60
  f_checked : Fd K mg "checked" 64
  f_reckoned : Fd K mg "reckoned" 70
  f_coded : Fd K mg "coded" 74
  f_with_value : Fd K mg "with_value" 75
  f_heaviness : Fd K mg "heaviness" 76
  f_number_come : Fd K mg "number_come" 77
  f_name_come : Fd K mg "name_come" 78
  f_length_come : Fd K mg "length_come" 79
  f_reckon_come : Fd K mg "reckon_come" 80
  f_if_come : Fd K mg "if_come" 81
  f_let_come : Fd K mg "let_come" 82
  f_value_come : Fd K mg "value_come" 95
  f_up_come : Fd K mg "up_come" 96
  f_wide_come : Fd K mg "wide_come" 97
  f_mirror_come : Fd K mg "mirror_come" 98
  f_fork_come : Fd K mg "fork_come" 99
  f_when_come : Fd K mg "when_come" 100
  f_with_name : Fd K mg "with_name" 113
  f_whole_kind : Fd K mg "whole_kind" 115
  f_length_kind : Fd K mg "length_kind" 116
  f_name_kind : Fd K mg "name_kind" 117
  f_reckon_kind : Fd K mg "reckon_kind" 118
  f_if_kind : Fd K mg "if_kind" 119
  f_let_kind : Fd K mg "let_kind" 120
  f_place_kind : Fd K mg "place_kind" 132
  f_value_kind : Fd K mg "value_kind" 133
  f_up_kind : Fd K mg "up_kind" 134
  f_wide_kind : Fd K mg "wide_kind" 135
  f_mirror_kind : Fd K mg "mirror_kind" 136
  f_fork_kind : Fd K mg "fork_kind" 137
  f_when_kind : Fd K mg "when_kind" 138
  f__law_draws : Fd K mg "_law_draws" 144
  f__law_next : Fd K mg "_law_next" 145
  f__law_place : Fd K mg "_law_place" 146
  f__law_reckoned : Fd K mg "_law_reckoned" 147
  f__law_side_deed : Fd K mg "_law_side_deed" 148
  f__law_deed : Fd K mg "_law_deed" 149
  f_law : Fd K mg "law" 150
  m_Run___init__ : Md K "Run" "__init__" "Run.__init__" (inClass (top 71) 0)
  m_PlainRun___init__ : Md K "PlainRun" "__init__" "PlainRun.__init__" (inClass (top 104) 0)
  m_PlainRun_come : Md K "PlainRun" "come" "PlainRun.come" (inClass (top 104) 1)
  m_PlainRun_asked : Md K "PlainRun" "asked" "PlainRun.asked" (inClass (top 104) 2)
  m_Finder___init__ : Md K "Finder" "__init__" "Finder.__init__" (inClass (top 114) 0)
  m_Finder_kind_of : Md K "Finder" "kind_of" "Finder.kind_of" (inClass (top 114) 1)
  m_Finder_own : Md K "Finder" "own" "Finder.own" (inClass (top 114) 2)
  m_Finder_wanted : Md K "Finder" "wanted" "Finder.wanted" (inClass (top 114) 3)
  m_Finder_within : Md K "Finder" "within" "Finder.within" (inClass (top 114) 4)
  m_Finder_same : Md K "Finder" "same" "Finder.same" (inClass (top 114) 6)
  m_Found___init__ : Md K "Found" "__init__" "Found.__init__" (inClass (top 142) 0)
  m_Found_rows : Md K "Found" "rows" "Found.rows" (inClass (top 142) 1)
  m_Found_kind_at : Md K "Found" "kind_at" "Found.kind_at" (inClass (top 142) 3)
  m_PlainRun_begin : Md K "PlainRun" "begin" "Run.begin" (inClass (top 71) 1)
  m_PlainRun_weighed : Md K "PlainRun" "weighed" "Run.weighed" (inClass (top 71) 3)
  c_Run : mg "Run" = some (.ref (He.ga K "Run")) ∧ ClX.CRead K (He.ga K "Run") (.type "type") ∧ PySem.W.findCls K (.ref (He.ga K "Run")) (.type "type") "__init__" = some (.val (.ref (He.ma K (He.ga K "Run") "__init__")))
  c_PlainRun : mg "PlainRun" = some (.ref (He.ga K "PlainRun")) ∧ Mk K (He.ga K "PlainRun") (He.ma K (He.ga K "PlainRun") "__init__") ∧ Cls K (He.ga K "PlainRun")
  n_PlainRun_steps : NoAttr K (He.ga K "PlainRun") "steps"
  n_PlainRun_found : NoAttr K (He.ga K "PlainRun") "found"
  n_PlainRun_defs : NoAttr K (He.ga K "PlainRun") "defs"
  n_PlainRun_asks : NoAttr K (He.ga K "PlainRun") "asks"
  c_Finder : mg "Finder" = some (.ref (He.ga K "Finder")) ∧ Mk K (He.ga K "Finder") (He.ma K (He.ga K "Finder") "__init__") ∧ Cls K (He.ga K "Finder")
  n_Finder_finds : NoAttr K (He.ga K "Finder") "finds"
  n_Finder_row : NoAttr K (He.ga K "Finder") "row"
  n_Finder_names : NoAttr K (He.ga K "Finder") "names"
  n_Finder_count : NoAttr K (He.ga K "Finder") "count"
  c_Found : mg "Found" = some (.ref (He.ga K "Found")) ∧ Mk K (He.ga K "Found") (He.ma K (He.ga K "Found") "__init__") ∧ Cls K (He.ga K "Found")
  n_Found_lines : NoAttr K (He.ga K "Found") "lines"
  n_Found_defs : NoAttr K (He.ga K "Found") "defs"
  n_Found_kinds : NoAttr K (He.ga K "Found") "kinds"
  n_Found_binds : NoAttr K (He.ga K "Found") "binds"
  t_SHAPES_number : KDct K w (He.ga K "SHAPES") "number" (.str "n")
  t_SHAPES_name : KDct K w (He.ga K "SHAPES") "name" (.str "x")
  t_SHAPES_length : KDct K w (He.ga K "SHAPES") "length" (.str "l")
  t_SHAPES_reckon : KDct K w (He.ga K "SHAPES") "reckon" (.str "wee")
  t_SHAPES_if : KDct K w (He.ga K "SHAPES") "if" (.str "eee")
  t_SHAPES_let : KDct K w (He.ga K "SHAPES") "let" (.str "xee")
  t_SHAPES_place : KDct K w (He.ga K "SHAPES") "place" (.str "ll")
  t_SHAPES_value : KDct K w (He.ga K "SHAPES") "value" (.str "e")
  t_SHAPES_up : KDct K w (He.ga K "SHAPES") "up" (.str "le")
  t_SHAPES_wide : KDct K w (He.ga K "SHAPES") "wide" (.str "le")
  t_SHAPES_mirror : KDct K w (He.ga K "SHAPES") "mirror" (.str "e")
  t_SHAPES_fork : KDct K w (He.ga K "SHAPES") "fork" (.str "lexee")
  t_SHAPES_when : KDct K w (He.ga K "SHAPES") "when" (.str "elxee")
  t_LOOKS_n : KDct K w (He.ga K "LOOKS") "n" (.ref (He.ga K "is_number"))
  t_LOOKS_x : KDct K w (He.ga K "LOOKS") "x" (.ref (He.ga K "is_name"))
  t_LOOKS_l : KDct K w (He.ga K "LOOKS") "l" (.ref (He.ga K "is_small"))
  t_LOOKS_w : KDct K w (He.ga K "LOOKS") "w" (.ref (He.ga K "is_reckoned"))
  t_WAYS_number : KDct K w (He.ga K "WAYS") "number" (.ref (He.ga K "number_come"))
  t_WAYS_name : KDct K w (He.ga K "WAYS") "name" (.ref (He.ga K "name_come"))
  t_WAYS_length : KDct K w (He.ga K "WAYS") "length" (.ref (He.ga K "length_come"))
  t_WAYS_reckon : KDct K w (He.ga K "WAYS") "reckon" (.ref (He.ga K "reckon_come"))
  t_WAYS_if : KDct K w (He.ga K "WAYS") "if" (.ref (He.ga K "if_come"))
  t_WAYS_let : KDct K w (He.ga K "WAYS") "let" (.ref (He.ga K "let_come"))
  t_WAYS_place : KDct K w (He.ga K "WAYS") "place" (.ref (He.ga K "length_come"))
  t_WAYS_value : KDct K w (He.ga K "WAYS") "value" (.ref (He.ga K "value_come"))
  t_WAYS_up : KDct K w (He.ga K "WAYS") "up" (.ref (He.ga K "up_come"))
  t_WAYS_wide : KDct K w (He.ga K "WAYS") "wide" (.ref (He.ga K "wide_come"))
  t_WAYS_mirror : KDct K w (He.ga K "WAYS") "mirror" (.ref (He.ga K "mirror_come"))
  t_WAYS_fork : KDct K w (He.ga K "WAYS") "fork" (.ref (He.ga K "fork_come"))
  t_WAYS_when : KDct K w (He.ga K "WAYS") "when" (.ref (He.ga K "when_come"))
  t_DEEDS_number : KDct K w (He.ga K "DEEDS") "number" (.ref (He.ga K "whole_kind"))
  t_DEEDS_name : KDct K w (He.ga K "DEEDS") "name" (.ref (He.ga K "name_kind"))
  t_DEEDS_length : KDct K w (He.ga K "DEEDS") "length" (.ref (He.ga K "length_kind"))
  t_DEEDS_reckon : KDct K w (He.ga K "DEEDS") "reckon" (.ref (He.ga K "reckon_kind"))
  t_DEEDS_if : KDct K w (He.ga K "DEEDS") "if" (.ref (He.ga K "if_kind"))
  t_DEEDS_let : KDct K w (He.ga K "DEEDS") "let" (.ref (He.ga K "let_kind"))
  t_DEEDS_place : KDct K w (He.ga K "DEEDS") "place" (.ref (He.ga K "place_kind"))
  t_DEEDS_value : KDct K w (He.ga K "DEEDS") "value" (.ref (He.ga K "value_kind"))
  t_DEEDS_up : KDct K w (He.ga K "DEEDS") "up" (.ref (He.ga K "up_kind"))
  t_DEEDS_wide : KDct K w (He.ga K "DEEDS") "wide" (.ref (He.ga K "wide_kind"))
  t_DEEDS_mirror : KDct K w (He.ga K "DEEDS") "mirror" (.ref (He.ga K "mirror_kind"))
  t_DEEDS_fork : KDct K w (He.ga K "DEEDS") "fork" (.ref (He.ga K "fork_kind"))
  t_DEEDS_when : KDct K w (He.ga K "DEEDS") "when" (.ref (He.ga K "when_kind"))
  l_SHAPES : (He.ga K "SHAPES" == sysModules) = false
  l_LOOKS : (He.ga K "LOOKS" == sysModules) = false
  l_DEEDS : (He.ga K "DEEDS" == sysModules) = false
  l_WAYS : (He.ga K "WAYS" == sysModules) = false
theorem Fx.bf_isinstance {w : World} {K : PySem.W.Frag} {mg : Str → Option Value} (E : Fx w K mg) : Bfn mg "isinstance" "isinstance" := ⟨E.b_isinstance, by with_unfolding_all rfl, by decide, by decide⟩
theorem Fx.bf_len {w : World} {K : PySem.W.Frag} {mg : Str → Option Value} (E : Fx w K mg) : Bfn mg "len" "len" := ⟨E.b_len, by with_unfolding_all rfl, by decide, by decide⟩
theorem Fx.bf_all {w : World} {K : PySem.W.Frag} {mg : Str → Option Value} (E : Fx w K mg) : Bfn mg "all" "all" := ⟨E.b_all, by with_unfolding_all rfl, by decide, by decide⟩
theorem Fx.bf_sorted {w : World} {K : PySem.W.Frag} {mg : Str → Option Value} (E : Fx w K mg) : Bfn mg "sorted" "sorted" := ⟨E.b_sorted, by with_unfolding_all rfl, by decide, by decide⟩
theorem Fx.bf_sum {w : World} {K : PySem.W.Frag} {mg : Str → Option Value} (E : Fx w K mg) : Bfn mg "sum" "sum" := ⟨E.b_sum, by with_unfolding_all rfl, by decide, by decide⟩
theorem Fx.bf_max {w : World} {K : PySem.W.Frag} {mg : Str → Option Value} (E : Fx w K mg) : Bfn mg "max" "max" := ⟨E.b_max, by with_unfolding_all rfl, by decide, by decide⟩
theorem Fx.bt_dict {w : World} {K : PySem.W.Frag} {mg : Str → Option Value} (E : Fx w K mg) : Bty mg "dict" "dict" := ⟨E.b_dict, by with_unfolding_all rfl, by decide, by decide⟩
theorem Fx.bt_tuple {w : World} {K : PySem.W.Frag} {mg : Str → Option Value} (E : Fx w K mg) : Bty mg "tuple" "tuple" := ⟨E.b_tuple, by with_unfolding_all rfl, by decide, by decide⟩
theorem Fx.bt_list {w : World} {K : PySem.W.Frag} {mg : Str → Option Value} (E : Fx w K mg) : Bty mg "list" "list" := ⟨E.b_list, by with_unfolding_all rfl, by decide, by decide⟩
theorem Fx.bt_int {w : World} {K : PySem.W.Frag} {mg : Str → Option Value} (E : Fx w K mg) : Bty mg "int" "int" := ⟨E.b_int, by with_unfolding_all rfl, by decide, by decide⟩
theorem Fx.bt_str {w : World} {K : PySem.W.Frag} {mg : Str → Option Value} (E : Fx w K mg) : Bty mg "str" "str" := ⟨E.b_str, by with_unfolding_all rfl, by decide, by decide⟩
theorem Fx.bt_bool {w : World} {K : PySem.W.Frag} {mg : Str → Option Value} (E : Fx w K mg) : Bty mg "bool" "bool" := ⟨E.b_bool, by with_unfolding_all rfl, by decide, by decide⟩
/-! ### the language of the law's asks -/
abbrev lenD (n : Int) : PyData := .tuple [.int n, .tuple []]
inductive Kd where
  | whole
  | place (n : Int)
def encK : Kd → PyData
  | .whole => .tuple [.str "whole"]
  | .place n => .tuple [.str "place", lenD n]
def Kd.ok : Kd → Prop
  | .whole => True
  | .place n => 0 ≤ n ∧ n ≤ 99
inductive Ex where
  | num (n : Int)
  | nm (x : Str)
  | len (n : Int)
  | rk (w : Str) (a b : Ex)
  | ite (a b c : Ex)
  | lt (x : Str) (a b : Ex)
  | pl (a b : Int)
  | va (a : Ex)
  | up (n : Int) (a : Ex)
  | wi (n : Int) (a : Ex)
  | mi (l : Int) (a : Ex)
  | fk (n : Int) (p : Ex) (x : Str) (a b : Ex)
  | wh (a : Ex) (n : Int) (x : Str) (b c : Ex)
def enc : Ex → PyData
  | .num n => .tuple [.str "number", .int n]
  | .nm x => .tuple [.str "name", .str x]
  | .len n => .tuple [.str "length", lenD n]
  | .rk w a b => .tuple [.str "reckon", .str w, enc a, enc b]
  | .ite a b c => .tuple [.str "if", enc a, enc b, enc c]
  | .lt x a b => .tuple [.str "let", .str x, enc a, enc b]
  | .pl a b => .tuple [.str "place", lenD a, lenD b]
  | .va a => .tuple [.str "value", enc a]
  | .up n a => .tuple [.str "up", lenD n, enc a]
  | .wi n a => .tuple [.str "wide", lenD n, enc a]
  | .mi _ a => .tuple [.str "mirror", enc a]
  | .fk n p x a b => .tuple [.str "fork", lenD n, enc p, .str x, enc a, enc b]
  | .wh a n x b c => .tuple [.str "when", enc a, lenD n, .str x, enc b, enc c]
def code : Ex → PyData
  | .num n => .tuple [.str "number", .int n]
  | .nm x => .tuple [.str "name", .str x]
  | .len n => .tuple [.str "length", lenD n]
  | .rk w a b => .tuple [.str "reckon", .str w, code a, code b]
  | .ite a b c => .tuple [.str "if", code a, code b, code c]
  | .lt x a b => .tuple [.str "let", .str x, code a, code b]
  | .pl a b => .tuple [.str "place", lenD a, lenD b]
  | .va a => .tuple [.str "value", code a]
  | .up n a => .tuple [.str "up", lenD n, code a]
  | .wi n a => .tuple [.str "wide", lenD n, code a]
  | .mi l a => .tuple [.str "mirror", lenD l, code a]
  | .fk n p x a b => .tuple [.str "fork", lenD n, code p, .str x, code a, code b]
  | .wh a n x b c => .tuple [.str "when", code a, lenD n, .str x, code b, code c]
def kids : Ex → List Ex
  | .num _ => []
  | .nm _ => []
  | .len _ => []
  | .rk _ a b => [a, b]
  | .ite a b c => [a, b, c]
  | .lt _ a b => [a, b]
  | .pl _ _ => []
  | .va a => [a]
  | .up _ a => [a]
  | .wi _ a => [a]
  | .mi _ a => [a]
  | .fk _ p _ a b => [p, a, b]
  | .wh a _ _ b c => [a, b, c]
def sz : Ex → Nat
  | .num _ => 1
  | .nm _ => 1
  | .len _ => 1
  | .rk _ a b => 1 + sz a + sz b
  | .ite a b c => 1 + sz a + sz b + sz c
  | .lt _ a b => 1 + sz a + sz b
  | .pl _ _ => 1
  | .va a => 1 + sz a
  | .up _ a => 1 + sz a
  | .wi _ a => 1 + sz a
  | .mi _ a => 1 + sz a
  | .fk _ p _ a b => 1 + sz p + sz a + sz b
  | .wh a _ _ b c => 1 + sz a + sz b + sz c
/-- how deep -/
def ht : Ex → Nat
  | .num _ => 0
  | .nm _ => 0
  | .len _ => 0
  | .rk _ a b => 1 + max (ht a) (ht b)
  | .ite a b c => 1 + max (ht a) (max (ht b) (ht c))
  | .lt _ a b => 1 + max (ht a) (ht b)
  | .pl _ _ => 0
  | .va a => 1 + ht a
  | .up _ a => 1 + ht a
  | .wi _ a => 1 + ht a
  | .mi _ a => 1 + ht a
  | .fk _ p _ a b => 1 + max (ht p) (max (ht a) (ht b))
  | .wh a _ _ b c => 1 + max (ht a) (max (ht b) (ht c))
def nameOk (x : Str) : Prop := x = "e" ∨ x = "x"
def wordOk (x : Str) : Prop := x = "plus" ∨ x = "minus" ∨ x = "times" ∨ x = "less" ∨ x = "same"
def lenOk (n : Int) : Prop := 0 ≤ n ∧ n ≤ 99
/-- one node is well formed -/
def ndOk : Ex → Prop
  | .num n => 0 ≤ n ∧ n < 1000000000000
  | .nm x => nameOk x
  | .len n => lenOk n
  | .rk w _ _ => wordOk w
  | .ite _ _ _ => True
  | .lt x _ _ => nameOk x
  | .pl a b => lenOk a ∧ lenOk b
  | .va _ => True
  | .up n _ => lenOk n
  | .wi n _ => lenOk n
  | .mi _ _ => True
  | .fk n _ x _ _ => lenOk n ∧ nameOk x
  | .wh _ n x _ _ => lenOk n ∧ nameOk x
def wf : Ex → Prop
  | .num n => ndOk (.num n)
  | .nm x => ndOk (.nm x)
  | .len n => ndOk (.len n)
  | .rk w a b => ndOk (.rk w a b) ∧ wf a ∧ wf b
  | .ite a b c => wf a ∧ wf b ∧ wf c
  | .lt x a b => ndOk (.lt x a b) ∧ wf a ∧ wf b
  | .pl a b => ndOk (.pl a b)
  | .va a => wf a
  | .up n a => ndOk (.up n a) ∧ wf a
  | .wi n a => ndOk (.wi n a) ∧ wf a
  | .mi _ a => wf a
  | .fk n p x a b => ndOk (.fk n p x a b) ∧ wf p ∧ wf a ∧ wf b
  | .wh a n x b c => ndOk (.wh a n x b c) ∧ wf a ∧ wf b ∧ wf c
theorem wf_nd : ∀ {e : Ex}, wf e → ndOk e := by
  intro e h
  cases e <;> first | exact h | exact h.1 | exact True.intro
theorem wf_kids : ∀ {e : Ex}, wf e → ∀ a ∈ kids e, wf a := by
  intro e h a ha
  cases e <;> simp only [kids, List.mem_cons, List.not_mem_nil, or_false] at ha
  all_goals first
    | (rcases ha with rfl | rfl | rfl <;> first | exact h.1 | exact h.2.1 | exact h.2.2 | exact h.2.2.1 | exact h.2.2.2)
    | (rcases ha with rfl | rfl <;> first | exact h.2.1 | exact h.2.2)
    | (subst ha; first | exact h | exact h.2)
end Sx
namespace Sx
open PySem PySem.Spec PyProof.Rows L2

theorem ok_inSign {X : Cx} {M : Mem} {k : Sy → Mem → Prop} {c : Nat} {z : Str} (q : k (.d (.bool (decide (c ∈ z.cps.toList)))) M) : OpK X (compareOp .In) (.d (.str ⟨#[c]⟩)) (.d (.str z)) M k :=
  ok_of op_in_sign fun S H x1 x2 Q sp i1 i2 po => ⟨c, z, is_str i1, is_str i2, po _ _ M S H q (Same.refl S) sp (.d (.bl _))⟩
section
variable {X : Cx} {G : Ga} {M : Mem} {body rest : List Stmt} {bf : Sy → Ga → Ga} {D : Tends} {y : Sy} {ys : List Sy} {nx bk ct : Ga → Mem → Prop} {rt : Sy → Mem → Prop}
theorem forL_nil (q : D.nx G M) : ForL X body bf D [] G M := q
theorem forL_cons (q : ExK X (bf y G) M body { nx := fun G' M' => ForL X body bf D ys G' M', rt := D.rt, bk := D.nx, ct := fun G' M' => ForL X body bf D ys G' M' }) : ForL X body bf D (y :: ys) G M := q
theorem forL_nilM (q : D.nx G M) : ForL X body bf D (List.map Sy.d []) G M := q
theorem forL_consM {d : PyData} {ds : List PyData} (q : ExK X (bf (.d d) G) M body { nx := fun G' M' => ForL X body bf D (ds.map Sy.d) G' M', rt := D.rt, bk := D.nx, ct := fun G' M' => ForL X body bf D (ds.map Sy.d) G' M' }) : ForL X body bf D ((d :: ds).map Sy.d) G M := q
theorem ok_cat00 {k : Sy → Mem → Prop} (q : k (.sl []) M) : OpK X (binaryOp .Add) (.sl []) (.sl []) M k := ok_cat (ys := []) (zs := []) (by decide) q
theorem nx_id (q : D.nx G M) : D.nx G M := q
theorem rt_id (q : D.rt y M) : D.rt y M := q
theorem then_rt (q : D.rt y M) : (Tends.then_ D X rest).rt y M := q
theorem ca_all0 {P : Program} {w : World} {K : PySem.W.Frag} {mg : Str → Option Value} {base : Heap} {n : Nat} {k : Sy → Mem → Prop} (C : Cxi X P w K mg base n) (q : k (.d (.bool true)) M) : CaK X (.builtin "all") [.sl []] M k := ca_all (bs := []) C q
def Fresh (M : Mem) (p : Addr → Prop) : Prop := ∀ a, M a = none → p a
theorem fresh_i {p : Addr → Prop} (h : ∀ a, M a = none → p a) : Fresh M p := h
theorem ex_setL {es : List Expr} {x : Str} {i : Nat} {p lp pos : Pos} (nd : X.N.Nodup) (s : Slot X i x) (h : EaK X G M es fun ys M1 => ys.length ≤ 1000 ∧ Fresh M1 fun a => ExK X (G.set i (some (.v (.ref a)))) (updM M1 a (.lst ys)) rest D)
    (hs : swapsWith (.List es lp) (some (.Name x p)) pos.line X.env = pure false) : ExK X G M (.Assign [.Name x p] (.List es lp) pos :: rest) D := ex_set nd s (ev_lstM h) hs
theorem none_in {ok : Sy → Prop} : ∀ y ∈ ([] : List Sy), ok y := fun _ h => absurd h (by simp)
end
theorem lcp0 {X : Cx} {G : Ga} {i : Nat} {scope : Scope} {elt : Expr} {gf : Sy → Sy} : LcP X G i scope elt gf [] := ⟨Nat.zero_le _, fun _ _ _ h => absurd h (by simp)⟩
section
variable {X : Cx} {G : Ga} {M : Mem} {k : Sy → Mem → Prop} {o : Expr} {apos cpos : Pos}
/-- f.pop() -/
def PopK (M1 : Mem) (f : Addr) (k : Sy → Mem → Prop) : Prop := ∃ ys z, M1 f = some (.lst (ys ++ [z])) ∧ k z (updM M1 f (.lst ys))
theorem ev_popK (h : EvK X G M o fun y M1 => ∃ f, y = .v (.ref f) ∧ PopK M1 f k)
    (hbase : attributeBase o "pop" X.env (eval o X.env) = eval o X.env) (hline : (apos.endLine == cpos.line) = true) : EvK X G M (.Call (.Attribute o "pop" apos) [] [] cpos) k :=
  ev_pop (fun σ S H Q sa sp po => h σ S H Q sa sp fun v y M' S' H' ⟨f, e1, ys, z, h1, h2⟩ => po v y M' S' H' ⟨f, ys, z, e1, h1, h2⟩) hbase hline
inductive Low (W : Nat → Ga → Mem → Prop) (m : Nat) (G : Ga) (M : Mem) : Prop
  | mk (m' : Nat) (h : m' < m) (w : W m' G M) : Low W m G M
  | no (h : False) : Low W m G M
theorem Low.ex {W : Nat → Ga → Mem → Prop} {m : Nat} {G : Ga} {M : Mem} : Low W m G M → ∃ m', m' < m ∧ W m' G M
  | .mk m' h w => ⟨m', h, w⟩
theorem tends_mono {D D2 : Tends} {st : List Stmt} (h : ExK X G M st D) (nx : ∀ G M, D.nx G M → D2.nx G M) (rt : ∀ y M, D.rt y M → D2.rt y M) (bk : ∀ G M, D.bk G M → D2.bk G M) (ct : ∀ G M, D.ct G M → D2.ct G M) : ExK X G M st D2 :=
  fun σ S H E sa sp po => h σ S H E sa sp ⟨fun G' σ' M' S' H' h => po.nx G' σ' M' S' H' (nx _ _ h), fun v y M' S' H' h => po.rt v y M' S' H' (rt _ _ h), fun G' σ' M' S' H' h => po.bk G' σ' M' S' H' (bk _ _ h), fun G' σ' M' S' H' h => po.ct G' σ' M' S' H' (ct _ _ h)⟩
theorem ex_whileL {P : Program} {w : World} {K : PySem.W.Frag} {mg : Str → Option Value} {base : Heap} {n : Nat} {c : Expr} {body rest : List Stmt} {pos : Pos} {D : Tends} (C : Cxi X P w K mg base n) (W : Nat → Ga → Mem → Prop) {m0 : Nat} (h0 : W m0 G M)
    (hs : ∀ m G M, W m G M → TeK X G M c fun t M1 => if t = true then ExK X G M1 body { nx := Low W m, rt := D.rt, bk := fun G' M' => ExK X G' M' rest D, ct := Low W m } else ExK X G M1 rest D) : ExK X G M (.While c body [] pos :: rest) D :=
  ex_while C W h0 fun m G M w σ S H Q sa sp po => hs m G M w σ S H Q sa sp fun b M' S' H' h e1 sp1 => po b M' S' H' (by
    cases b with
    | true => rw [if_pos rfl] at h ⊢; exact tends_mono h (fun _ _ h => h.ex) (fun _ _ h => h) (fun _ _ h => h) fun _ _ h => h.ex
    | false => exact h) e1 sp1
end
section
variable {X : Cx} {P : Program} {w : World} {K : PySem.W.Frag} {mg : Str → Option Value} {base : Heap} {n : Nat} {G : Ga} {M : Mem} {k : Sy → Mem → Prop} {body : List Stmt} {bf : Sy → Ga → Ga} {D : Tends}
theorem asEv {e : Expr} (h : EvK X G M e k) : EvK X G M e k := h
theorem asTe {e : Expr} {kb : Bool → Mem → Prop} (h : TeK X G M e kb) : TeK X G M e kb := h
theorem asTw {e : Expr} {kb : Bool → Mem → Prop} (h : TwK X G M e kb) : TwK X G M e kb := h
theorem asEa {es : List Expr} {ka : List Sy → Mem → Prop} (h : EaK X G M es ka) : EaK X G M es ka := h
theorem asEd {es : List Expr} {ka : List PyData → Mem → Prop} (h : EdK X G M es ka) : EdK X G M es ka := h
theorem asOp {f : Value → Value → Sem Value} {y1 y2 : Sy} (h : OpK X f y1 y2 M k) : OpK X f y1 y2 M k := h
theorem asIt {y1 y2 : Sy} (h : ItK X y1 y2 M k) : ItK X y1 y2 M k := h
theorem asCa {f : Value} {ys : List Sy} (h : CaK X f ys M k) : CaK X f ys M k := h
theorem asEx {st : List Stmt} (h : ExK X G M st D) : ExK X G M st D := h
theorem asIf {c : Bool} {A B : Prop} (h : if c = true then A else B) : if c = true then A else B := h
theorem it_kdS {f : Addr} {z s : Str} (C : Cxi X P w K mg base n) (h : KDct K w f z (.str s)) (q : k (.d (.str s)) M) : ItK X (.v (.ref f)) (.d (.str z)) M k := it_kd C h (fun _ => .d (.str _)) q
theorem it_kdR {f g : Addr} {z : Str} (C : Cxi X P w K mg base n) (h : KDct K w f z (.ref g)) (q : k (.v (.ref g)) M) : ItK X (.v (.ref f)) (.d (.str z)) M k := it_kd C h (fun _ => .v) q
theorem sk_tup1 {d d2 : PyData} {r : List PyData} (q : k (.d (.tuple (d2 :: r))) M) : SlK X (.d (.tuple (d :: d2 :: r))) (some 1) none M k := by
  have h1 : HT.sIx (d :: d2 :: r).length 0 (some 1) = 1 := by
    have e := HT.sIx_nat (d :: d2 :: r).length 0 1
    refine Eq.trans e ?_
    rw [List.length_cons, List.length_cons]
    omega
  have h2 : cutY (d :: d2 :: r) (some 1) none = d2 :: r := by
    unfold cutY
    rw [h1]
    show ((d :: d2 :: r).drop 1).take ((d :: d2 :: r).length - 1) = _
    simp
  exact sk_tup (by rw [h1]; omega) (by rw [h2]; exact List.cons_ne_nil _ _) (by rw [h2]; exact q)
theorem forL_eq {items : List Sy} (items' : List Sy) (h : items = items') (q : ForL X body bf D items' G M) : ForL X body bf D items G M := by rw [h]; exact q
theorem zipL_ok : ∀ {cs : List Nat} {ds : List PyData}, ∀ y ∈ zipL cs ds, ∃ ds', y = .d (.tuple ds') ∧ ds'.length = 2
  | [], _, y, h => by simp [zipL] at h
  | _ :: _, [], y, h => by simp [zipL] at h
  | c :: cs, d :: ds, y, h => by
    rcases List.mem_cons.mp (show y ∈ Sy.d (.tuple [.str ⟨#[c]⟩, d]) :: zipL cs ds from h) with rfl | h
    · exact ⟨_, rfl, rfl⟩
    · exact zipL_ok y h
theorem eqv_len (n : Int) : PyData.eqv (lenD n) (lenD n) = true := by simp [PyData.eqv, PyData.eqvAll]
end
end Sx
namespace Sx
open PySem PySem.Spec PyProof.Rows L2
theorem sz_pos (e : Ex) : 1 ≤ sz e := by cases e <;> (unfold sz; omega)
theorem sz_kids (e : Ex) : sz e = 1 + ((kids e).map sz).sum := by cases e <;> (simp only [sz, kids, List.map, List.sum_cons, List.sum_nil]; omega)
theorem ht_kids {e a : Ex} (h : a ∈ kids e) : ht a + 1 ≤ ht e := by
  cases e <;> simp only [kids, List.mem_cons, List.not_mem_nil, or_false] at h <;> simp only [ht]
  all_goals first
    | (rcases h with rfl | rfl | rfl <;> omega)
    | (rcases h with rfl | rfl <;> omega)
    | (subst h; omega)
theorem kids_len (e : Ex) : (kids e).length ≤ 3 := by cases e <;> simp [kids]
def wsL (ws : List (Ex × Nat)) : List Sy := ws.map fun p => .d (.tuple [enc p.1, .int (p.2 : Nat)])
def wsz (ws : List (Ex × Nat)) : Nat := (ws.map fun p => sz p.1).sum
theorem wsL_app {ws ws2 : List (Ex × Nat)} : wsL (ws ++ ws2) = wsL ws ++ wsL ws2 := List.map_append
theorem wsz_app {ws ws2 : List (Ex × Nat)} : wsz (ws ++ ws2) = wsz ws + wsz ws2 := by unfold wsz; rw [List.map_append, List.sum_append]
theorem wsz_kids {e : Ex} {d : Nat} : wsz ((kids e).map fun a => (a, d)) = ((kids e).map sz).sum := by unfold wsz; rw [List.map_map]; rfl
theorem ws_len : ∀ {ws : List (Ex × Nat)}, ws.length ≤ wsz ws
  | [] => Nat.le_refl _
  | p :: ws => by
    have h := @ws_len ws
    have h1 := sz_pos p.1
    have e : wsz (p :: ws) = sz p.1 + wsz ws := List.sum_cons
    rw [e, List.length_cons]
    omega
def gfE (d : Nat) : Sy → Sy
  | .d x => .d (.tuple [x, .int ((d : Int) + 1)])
  | y => y
theorem gfE_map {e : Ex} {d : Nat} : ((kids e).map fun a => Sy.d (enc a)).map (gfE d) = wsL ((kids e).map fun a => (a, d + 1)) := by
  unfold wsL
  rw [List.map_map, List.map_map]
  rfl
def exOk (e : Ex) : Prop := wf e ∧ ht e ≤ 7 ∧ sz e ≤ 40
end Sx
namespace Sx
open PySem PySem.Spec PyProof.Rows L2
abbrev rowE (e : Ex) : PyData := .tuple [.str "ask", enc e]
theorem forL_inv {X : Cx} {G : Ga} {M : Mem} {body : List Stmt} {bf : Sy → Ga → Ga} {D : Tends} (P : Nat → Ga → Mem → Prop) : ∀ {items : List Sy} (j : Nat), P j G M →
    (∀ i y G M, items[i]? = some y → P (j + i) G M → ExK X (bf y G) M body { nx := P (j + i + 1), rt := D.rt, bk := D.nx, ct := P (j + i + 1) }) → (∀ G M, P (j + items.length) G M → D.nx G M) → ForL X body bf D items G M
  | [], j, h0, hs, he => he _ _ h0
  | y :: ys, j, h0, hs, he => by
    have h := hs 0 y _ _ rfl h0
    have hn : ∀ G M, P (j + 1) G M → ForL X body bf D ys G M := fun G M hp => forL_inv P (j + 1) hp (fun i y G M hy hp => by
      have e : j + 1 + i = j + (i + 1) := by omega
      rw [e] at hp ⊢
      exact hs (i + 1) y G M hy hp) fun G M hp => he G M (by rw [List.length_cons]; have e : j + (ys.length + 1) = j + 1 + ys.length := (by omega); rw [e]; exact hp)
    exact forL_cons (tends_mono h (fun G M q => hn G M q) (fun _ _ q => q) (fun _ _ q => q) fun G M q => hn G M q)
theorem enumL_ok {ds : List PyData} : ∀ y ∈ enumL ds, ∃ ds', y = .d (.tuple ds') ∧ ds'.length = 2 := fun y h => by
  obtain ⟨i, h1, h2⟩ := List.getElem_of_mem h
  obtain ⟨d, h3, h4⟩ := enumL_get (i := i) (y := y) (by rw [List.getElem?_eq_getElem h1, h2])
  exact ⟨_, h4, rfl⟩
theorem row_get {es : List Ex} {i : Nat} {d : PyData} (h : (es.map rowE)[i]? = some d) : ∃ e, es[i]? = some e ∧ d = rowE e := by
  rw [List.getElem?_map] at h
  obtain ⟨e, h1, h2⟩ := Option.map_eq_some_iff.mp h
  exact ⟨e, h1, h2.symm⟩
end Sx
namespace Sx
open PySem PySem.Spec PyProof.Rows L2
inductive Stop (p : Prop) : Prop
  | mk (h : p) : Stop p
  | no (h : False) : Stop p
theorem Stop.go {p : Prop} : Stop p → p
  | .mk h => h
theorem ev_mono {X : Cx} {G : Ga} {M : Mem} {e : Expr} {k k2 : Sy → Mem → Prop} (h : EvK X G M e k) (hk : ∀ y M, k y M → k2 y M) : EvK X G M e k2 :=
  fun σ S H Q sa sp po => h σ S H Q sa sp fun v y M' S' H' h1 => po v y M' S' H' (hk _ _ h1)
theorem ed_mono {X : Cx} {G : Ga} {M : Mem} {es : List Expr} {k k2 : List PyData → Mem → Prop} (h : EdK X G M es k) (hk : ∀ y M, k y M → k2 y M) : EdK X G M es k2 :=
  fun σ S H Q sa sp po => h σ S H Q sa sp fun v y M' S' H' ⟨ds, h1, h2⟩ => po v y M' S' H' ⟨ds, h1, hk _ _ h2⟩
section
variable {X : Cx} {P : Program} {w : World} {K : PySem.W.Frag} {mg : Str → Option Value} {base : Heap} {n : Nat} {G : Ga} {M : Mem} {a b c e o : Expr} {es : List Expr} {rest : List Stmt} {p pos : Pos} {D : Tends} {k : Sy → Mem → Prop}
theorem ex_dputS {pos' : Pos} (C : Cxi X P w K mg base n) (h : EvK X G M e fun z M1 => EvK X G M1 o fun y M2 => EvK X G M2 b fun q M3 => Stop (∃ (f : Addr) (nn : Nat) (mm : Key → Option PyData) (s : Str) (dz : PyData), z = .d dz ∧ y = .v (.ref f) ∧ q = .d (.str s) ∧ M3 f = some (.dK nn mm) ∧ nn ≤ 1000 ∧
      ExK X G (updM M3 f (.dK (nn + 1) (putM mm (Sum.inr s) dz))) rest D)) (hs : swapsWith e (some (.Subscript o b pos')) pos.line X.env = pure false) : ExK X G M (.Assign [.Subscript o b pos'] e pos :: rest) D :=
  ex_dput C (ev_mono h fun _ _ h => ev_mono h fun _ _ h => ev_mono h fun _ _ h => h.go) hs
theorem ex_dputTS {pos' : Pos} {x1 : Nat} (C : Cxi X P w K mg base n) (h : EvK X G M e fun z M1 => EvK X G M1 o fun y M2 => EdK X G M2 es fun ds M3 => Stop (∃ (f : Addr) (nn : Nat) (mm : List Key → Option PyData) (qs : List Key) (dz : PyData), z = .d dz ∧ y = .v (.ref f) ∧ ds = qs.map kD ∧ ds.length ≤ 1000 ∧ M3 f = some (.dT nn mm) ∧ nn ≤ 1000 ∧
      ExK X G (updM M3 f (.dT (nn + 1) (putM mm qs dz))) rest D)) (hs : swapsWith e (some (.Subscript o (.Tuple es x1 p) pos')) pos.line X.env = pure false) : ExK X G M (.Assign [.Subscript o (.Tuple es x1 p) pos'] e pos :: rest) D :=
  ex_dputT C (ev_mono h fun _ _ h => ev_mono h fun _ _ h => ed_mono h fun _ _ h => h.go) hs
theorem ev_dgetTS {x1 : Nat} (C : Cxi X P w K mg base n) (h : EvK X G M o fun y M1 => ∃ f, y = .v (.ref f) ∧ EdK X G M1 es fun ds M2 => Stop (∃ (qs : List Key) (nn : Nat) (mm : List Key → Option PyData) (d : PyData), ds = qs.map kD ∧ ds.length ≤ 1000 ∧ M2 f = some (.dT nn mm) ∧ mm qs = some d ∧ k (.d d) M2)) (hs : NoSl (.Tuple es x1 p)) :
    EvK X G M (.Subscript o (.Tuple es x1 p) pos) k :=
  ev_dgetT C (ev_mono h fun _ _ ⟨f, h1, h2⟩ => ⟨f, h1, ed_mono h2 fun _ _ h => h.go⟩) hs
/-- o.f -/
theorem ev_fldS {f : Str} (C : Cxi X P w K mg base n) (h : EvK X G M o fun y M1 => Stop (∃ (a D dx : Addr) (gs : List (Str × Sy)) (z : Sy), y = .v (.ref a) ∧ M1 a = some (.ins D dx gs) ∧ Cls K D ∧ NoAttr K D f ∧ gs.lookup f = some z ∧ k z M1))
    (hb : attributeBase o f X.env (eval o X.env) = eval o X.env) : EvK X G M (.Attribute o f pos) k := ev_fld C (ev_mono h fun _ _ h => h.go) hb
theorem ex_fldS {f : Str} {pos' : Pos} (C : Cxi X P w K mg base n) (h : EvK X G M e fun z M1 => EvK X G M1 o fun y M2 => Stop (∃ (a D' dx : Addr) (gs : List (Str × Sy)), y = .v (.ref a) ∧ M2 a = some (.ins D' dx gs) ∧ Cls K D' ∧ NoAttr K D' f ∧ gs.length < 1000 ∧ ExK X G (updM M2 a (.ins D' dx (putY f z gs))) rest D))
    (hs : swapsWith e (some (.Attribute o f pos')) pos.line X.env = pure false) : ExK X G M (.Assign [.Attribute o f pos'] e pos :: rest) D := ex_fld C (ev_mono h fun _ _ h => ev_mono h fun _ _ h => h.go) hs
end
theorem ca_dictF {X : Cx} {M : Mem} {k : Sy → Mem → Prop} {nn : Nat} {mm : Key → Option PyData} (q : Fresh M fun a => k (.v (.ref a)) (updM M a (.dK nn mm))) : CaK X (.type "dict") [.dk nn mm] M k := ca_dictD q
def rkv (w : Str) (a b : Int) : Int := if w = "plus" then (a + b) % 1000000000000 else if w = "minus" then (a - b) % 1000000000000 else if w = "times" then a * b % 1000000000000 else if w = "less" then (if decide (a < b) = true then 1 else 0) else (if decide (a = b) = true then 1 else 0)
section
variable {a b : Int}
theorem rkv_plus : rkv "plus" a b = (a + b) % 1000000000000 := if_pos rfl
theorem rkv_minus : rkv "minus" a b = (a - b) % 1000000000000 := (if_neg (by decide)).trans (if_pos rfl)
theorem rkv_times : rkv "times" a b = a * b % 1000000000000 := (if_neg (by decide)).trans ((if_neg (by decide)).trans (if_pos rfl))
theorem rkv_less : rkv "less" a b = (if decide (a < b) = true then 1 else 0) := (if_neg (by decide)).trans ((if_neg (by decide)).trans ((if_neg (by decide)).trans (if_pos rfl)))
theorem rkv_same : rkv "same" a b = (if decide (a = b) = true then 1 else 0) := (if_neg (by decide)).trans ((if_neg (by decide)).trans ((if_neg (by decide)).trans (if_neg (by decide))))
end
/-- small enough for a product -/
def mulOk (a : Int) : Prop := -(2 ^ 64) < a ∧ a < 2 ^ 64
end Sx
namespace Sx
open PySem PySem.Spec PyProof.Rows L2
section
variable {X : Cx} {P : Program} {w : World} {K : PySem.W.Frag} {mg : Str → Option Value} {base : Heap} {n : Nat} {G G' : Ga} {M : Mem} {e : Expr} {es : List Expr} {st rest body : List Stmt} {p pos : Pos} {D : Tends} {x : Str} {i : Nat} {y : Sy} {ys : List Sy} {bf : Sy → Ga → Ga}
/-- the slots are written out first -/
def NormK (X : Cx) (G : Ga) (M : Mem) (st : List Stmt) (D : Tends) : Prop := ExK X G M st D
theorem normK {M' : Mem} (hG : G = G') (hM : M = M') (q : ExK X G' M' st D) : NormK X G M st D := by rw [hG, hM]; exact q
theorem asNm {M' : Mem} (h : NormK X G M' st D) : NormK X G M' st D := h
theorem ex_exprN (h : EvK X G M e fun _ M1 => NormK X G M1 rest D) (hs : swapsWith e none pos.line X.env = pure false) : ExK X G M (.Expr e pos :: rest) D := ex_expr h hs
theorem ex_openN {st1 : Stmt} (hG : G = G') (h : body = st1 :: rest) (q : ExK X G' M (st1 :: rest) D) : ExK X G M body D := by rw [hG, h]; exact q
theorem ex_setN (nd : X.N.Nodup) (s : Slot X i x) (h : EvK X G M e fun y M1 => NormK X (G.set i (some y)) M1 rest D) (hs : swapsWith e (some (.Name x p)) pos.line X.env = pure false) : ExK X G M (.Assign [.Name x p] e pos :: rest) D := ex_set nd s h hs
theorem ex_setLN {lp : Pos} (nd : X.N.Nodup) (s : Slot X i x) (h : EaK X G M es fun ys M1 => ys.length ≤ 1000 ∧ Fresh M1 fun a => NormK X (G.set i (some (.v (.ref a)))) (updM M1 a (.lst ys)) rest D)
    (hs : swapsWith (.List es lp) (some (.Name x p)) pos.line X.env = pure false) : ExK X G M (.Assign [.Name x p] (.List es lp) pos :: rest) D := ex_setL nd s h hs
theorem ex_unpackN {is : List Nat} {x1 : Nat} (C : Cxi X P w K mg base n) (t : Tgs X es is) (h : EvK X G M e fun y M1 => ∃ ds, y = .d (.tuple ds) ∧ ds.length = is.length ∧ NormK X (setAll G is (ds.map Sy.d)) M1 rest D)
    (hs : swapsWithSole [.Tuple es x1 p] e pos.line X.env = pure false) (hw : swappedStores [.Tuple es x1 p] e X.env = pure none) : ExK X G M (.Assign [.Tuple es x1 p] e pos :: rest) D := ex_unpack C t h hs hw
theorem ex_augaddN (nd : X.N.Nodup) (s : Slot X i x) {v0 : Int} (hx : G[i]? = some (some (.d (.int v0)))) (h : EvK X G M e fun z M1 => ∃ l : Int, z = .d (.int l) ∧ NormK X (G.set i (some (.d (.int (v0 + l))))) M1 rest D) : ExK X G M (.AugAssign (.Name x p) .Add e pos :: rest) D := ex_augadd nd s hx h
theorem forL_consN (q : NormK X (bf y G) M body { nx := fun G' M' => ForL X body bf D ys G' M', rt := D.rt, bk := D.nx, ct := fun G' M' => ForL X body bf D ys G' M' }) : ForL X body bf D (y :: ys) G M := q
theorem forL_consMN {d : PyData} {ds : List PyData} (q : NormK X (bf (.d d) G) M body { nx := fun G' M' => ForL X body bf D (ds.map Sy.d) G' M', rt := D.rt, bk := D.nx, ct := fun G' M' => ForL X body bf D (ds.map Sy.d) G' M' }) : ForL X body bf D ((d :: ds).map Sy.d) G M := q
end
theorem asExi {A : Sort _} {p : A → Prop} (h : ∃ x, p x) : ∃ x, p x := h
theorem asAnd {A B : Prop} (h : A ∧ B) : A ∧ B := h
theorem ev_insertK {X : Cx} {G : Ga} {M : Mem} {k : Sy → Mem → Prop} {o e2 : Expr} {apos cpos : Pos} {ix : Int} {ipos : Pos} {kk : Nat} (h : EvK X G M o fun y M1 => ∃ (f : Addr) (ys0 : List Sy), y = .v (.ref f) ∧ M1 f = some (.lst ys0) ∧ EvK X G M1 e2 fun z M2 => ∃ ys, M2 f = some (.lst ys) ∧ ys.length ≤ 100000 ∧ k (.d .none) (updM M2 f (.lst (ys.take ix.toNat ++ [z] ++ ys.drop ix.toNat))))
    (h0 : 0 ≤ ix ∧ ix < 2 ^ 63)
    (hbase : attributeBase o "insert" X.env (eval o X.env) = eval o X.env)
    (hfew : ((backTo cpos (starEach [.Constant (.int ix) kk ipos, e2] X.env)).all (fun x => !x.1) && (backToKw cpos (keywordEach [] X.env)).all (fun x => x.1.isSome)
      && decide (([.Constant (.int ix) kk ipos, e2] : List Expr).length + ([] : List Keyword).length + (if ([] : List Keyword).isEmpty then 0 else 1) < 30)) = true)
    (hline : (apos.endLine == cpos.line) = true) (hs : starEach [.Constant (.int ix) kk ipos, e2] X.env = (false, eval (.Constant (.int ix) kk ipos) X.env) :: starEach [e2] X.env)
    (hs2 : starEach [e2] X.env = (false, eval e2 X.env) :: starEach [] X.env) (hplain : (backTo cpos (starEach [e2] X.env)).any (·.1) = false) : EvK X G M (.Call (.Attribute o "insert" apos) [.Constant (.int ix) kk ipos, e2] [] cpos) k := ev_insert h h0 hbase hfew hline hs hs2 hplain
abbrev plOf (o : Expr) (env : Env) : Sem Bool := do return (← importBound o env).getD true
theorem ev_methS {X : Cx} {P : Program} {w : World} {K : PySem.W.Frag} {mg : Str → Option Value} {base : Heap} {n j : Nat} {G : Ga} {M : Mem} {k : Sy → Mem → Prop} {o e : Expr} {es : List Expr} {m : Str} {apos pos : Pos} {T : Tr} {D : Addr} (C : Cxi X P w K mg base n) (F : Mfn P w K mg base D m j T) (hj : j ≤ n)
    (h : EvK X G M o fun y M1 => Stop (∃ (a dx : Addr) (gs : List (Str × Sy)), y = .v (.ref a) ∧ M1 a = some (.ins D dx gs) ∧ gs.lookup m = none ∧ EaK X G M1 (e :: es) fun ys M2 => T (y :: ys) M2 k))
    (hst : starEach (e :: es) X.env = (false, eval e X.env) :: starEach es X.env) (hpl : (backTo pos (starEach es X.env)).any (·.1) = false)
    (ht : eval (.Call (.Attribute o m apos) (e :: es) [] pos) X.env = (do
      let ov ← eval o X.env
      standAt apos.atName
      let (f, first) ← holding [ov] (getMethod ov m (plOf o X.env))
      callWith pos f first (backTo pos (starEach (e :: es) X.env)) (backToKw pos (keywordEach [] X.env)))) : EvK X G M (.Call (.Attribute o m apos) (e :: es) [] pos) k := ev_meth C F hj (ev_mono h fun _ _ h => h.go) hst hpl ht
/-- the Found instance, its kinds -/
def FoundAt (K : PySem.W.Frag) (M : Mem) (fo : Addr) (mm : List Key → Option PyData) : Prop := ∃ (kd dx : Addr) (fs : List (Str × Sy)) (nn : Nat), M fo = some (.ins (He.ga K "Found") dx fs) ∧ fs.lookup ("kinds" : Str) = some (.v (.ref kd)) ∧ fs.lookup ("kind_at" : Str) = none ∧ M kd = some (.dT nn mm)
theorem FoundAt.less {K : PySem.W.Frag} {M M2 : Mem} {fo : Addr} {mm : List Key → Option PyData} (h : FoundAt K M fo mm) (s : Sub M M2) : FoundAt K M2 fo mm := by
  obtain ⟨kd, dx, fs, nn, h1, h2, h3, h4⟩ := h
  exact ⟨kd, dx, fs, nn, s _ _ h1, h2, h3, s _ _ h4⟩
/-- the kinds at the mirrors' nodes -/
def Kn (mm : List Key → Option PyData) (r : Int) : Int → Ex → Prop
  | c, .rk _ a b => Kn mm r (c + 1) a ∧ Kn mm r (c + 1 + sz a) b
  | c, .ite a b d => Kn mm r (c + 1) a ∧ Kn mm r (c + 1 + sz a) b ∧ Kn mm r (c + 1 + sz a + sz b) d
  | c, .lt _ a b => Kn mm r (c + 1) a ∧ Kn mm r (c + 1 + sz a) b
  | c, .va a => Kn mm r (c + 1) a
  | c, .up _ a => Kn mm r (c + 1) a
  | c, .wi _ a => Kn mm r (c + 1) a
  | c, .mi l a => mm [.inl r, .inl c] = some (encK (.place l)) ∧ Kn mm r (c + 1) a
  | c, .fk _ p _ a b => Kn mm r (c + 1) p ∧ Kn mm r (c + 1 + sz p) a ∧ Kn mm r (c + 1 + sz p + sz a) b
  | c, .wh a _ _ b d => Kn mm r (c + 1) a ∧ Kn mm r (c + 1 + sz a) b ∧ Kn mm r (c + 1 + sz a + sz b) d
  | _, _ => True
end Sx
namespace Sx
open PySem PySem.Spec PyProof.Rows L2
/-! ### kinds and values of expressions -/
def inK : Kd → Int → Prop
  | .whole, v => 0 ≤ v ∧ v < 1000000000000
  | .place n, v => 0 ≤ v ∧ v < n
abbrev Gm := Str → Option Kd
def upG (g : Gm) (x : Str) (κ : Kd) : Gm := fun z => if z = x then some κ else g z
def upR (r : Str → Int) (x : Str) (v : Int) : Str → Int := fun z => if z = x then v else r z
def Ty : Ex → Gm → Kd → Prop
  | .num n, _, κ => κ = .whole ∧ 0 ≤ n ∧ n < 1000000000000
  | .nm x, g, κ => κ.ok ∧ g x = some κ
  | .len n, _, κ => κ = .whole ∧ lenOk n
  | .rk w a b, g, κ => κ = .whole ∧ wordOk w ∧ Ty a g .whole ∧ Ty b g .whole
  | .ite a b c, g, κ => κ.ok ∧ Ty a g .whole ∧ Ty b g κ ∧ Ty c g κ
  | .lt x a b, g, κ => κ.ok ∧ ∃ κ', Ty a g κ' ∧ Ty b (upG g x κ') κ
  | .pl a b, _, κ => κ = .place b ∧ 0 ≤ a ∧ a + 1 ≤ b ∧ b ≤ 99
  | .va a, g, κ => κ = .whole ∧ ∃ n, Ty a g (.place n)
  | .up n a, g, κ => ∃ m, (κ = .place (m + n) ∧ 0 ≤ m ∧ 0 ≤ n ∧ m + n ≤ 99) ∧ Ty a g (.place m)
  | .wi n a, g, κ => (κ = .place n ∧ 0 ≤ n ∧ n ≤ 99) ∧ ∃ m, m ≤ n ∧ Ty a g (.place m)
  | .mi l a, g, κ => (κ = .place l ∧ 0 ≤ l ∧ l ≤ 99) ∧ Ty a g (.place l)
  | .fk n p x a b, g, κ => κ.ok ∧ 0 ≤ n ∧ ∃ m, n ≤ m ∧ m ≤ 99 ∧ Ty p g (.place m) ∧ Ty a (upG g x (.place n)) κ ∧ Ty b (upG g x (.place (m - n))) κ
  | .wh a n x b c, g, κ => κ.ok ∧ lenOk n ∧ Ty a g .whole ∧ Ty b (upG g x (.place n)) κ ∧ Ty c g κ
def vl : Ex → (Str → Int) → Int
  | .num n, _ => n
  | .nm x, r => r x
  | .len n, _ => n
  | .rk w a b, r => rkv w (vl a r) (vl b r)
  | .ite a b c, r => if vl a r = 0 then vl c r else vl b r
  | .lt x a b, r => vl b (upR r x (vl a r))
  | .pl a _, _ => a
  | .va a, r => vl a r
  | .up n a, r => vl a r + n
  | .wi _ a, r => vl a r
  | .mi l a, r => l - 1 - vl a r
  | .fk n p x a b, r => if vl p r < n then vl a (upR r x (vl p r)) else vl b (upR r x (vl p r - n))
  | .wh a n x b c, r => if vl a r < n then vl b (upR r x (vl a r)) else vl c r
def EnvIn (g : Gm) (r : Str → Int) : Prop := ∀ x κ, g x = some κ → inK κ (r x)
theorem EnvIn.up {g : Gm} {r : Str → Int} {x : Str} {κ : Kd} {v : Int} (h : EnvIn g r) (hv : inK κ v) : EnvIn (upG g x κ) (upR r x v) := by
  intro z κ' hz
  unfold upG at hz
  unfold upR
  by_cases e : z = x
  · rw [if_pos e] at hz ⊢
    cases hz
    exact hv
  · rw [if_neg e] at hz ⊢
    exact h z κ' hz
theorem ty_ok : ∀ {e : Ex} {g : Gm} {κ : Kd}, Ty e g κ → κ.ok := by
  intro e g κ h
  cases e <;> simp only [Ty] at h
  all_goals first
    | exact h.1
    | (obtain ⟨rfl, _⟩ := h; exact True.intro)
    | (obtain ⟨rfl, h1, h2, h3⟩ := h; exact ⟨by omega, by omega⟩)
    | (obtain ⟨m, ⟨rfl, h1, h2, h3⟩, _⟩ := h; exact ⟨by omega, by omega⟩)
    | (obtain ⟨⟨rfl, h1, h2⟩, _⟩ := h; exact ⟨by omega, by omega⟩)
theorem rkv_in {w : Str} {a b : Int} (hw : wordOk w) : inK .whole (rkv w a b) := by
  rcases hw with rfl | rfl | rfl | rfl | rfl
  · rw [rkv_plus]; exact ⟨Int.emod_nonneg _ (by decide), Int.emod_lt_of_pos _ (by decide)⟩
  · rw [rkv_minus]; exact ⟨Int.emod_nonneg _ (by decide), Int.emod_lt_of_pos _ (by decide)⟩
  · rw [rkv_times]; exact ⟨Int.emod_nonneg _ (by decide), Int.emod_lt_of_pos _ (by decide)⟩
  · rw [rkv_less]; constructor <;> split <;> decide
  · rw [rkv_same]; constructor <;> split <;> decide
theorem ty_in : ∀ (e : Ex) {g : Gm} {r : Str → Int} {κ : Kd}, Ty e g κ → EnvIn g r → inK κ (vl e r) := by
  intro e
  induction e with
  | num n => intro g r κ h _; obtain ⟨rfl, h1, h2⟩ := h; exact ⟨h1, h2⟩
  | nm x => intro g r κ h hr; exact hr x κ h.2
  | len n => intro g r κ h _; obtain ⟨rfl, h1, h2⟩ := h; exact ⟨h1, by show n < _; omega⟩
  | rk w a b _ _ => intro g r κ h hr; obtain ⟨rfl, hw, _, _⟩ := h; exact rkv_in hw
  | ite a b c _ hb hc =>
    intro g r κ h hr
    obtain ⟨_, _, h2, h3⟩ := h
    unfold vl
    split
    · exact hc h3 hr
    · exact hb h2 hr
  | lt x a b ha hb => intro g r κ h hr; obtain ⟨_, κ', h1, h2⟩ := h; exact hb h2 (hr.up (ha h1 hr))
  | pl a b => intro g r κ h _; obtain ⟨rfl, h1, h2, _⟩ := h; exact ⟨h1, by show a < b; omega⟩
  | va a ha =>
    intro g r κ h hr
    obtain ⟨rfl, n, h1⟩ := h
    have h2 := ha h1 hr
    have h3 := ty_ok h1
    exact ⟨h2.1, by have := h2.2; have := h3.2; show vl a r < _; omega⟩
  | up n a ha =>
    intro g r κ h hr
    obtain ⟨m, ⟨rfl, h1, h2, h3⟩, h4⟩ := h
    have h5 := ha h4 hr
    exact ⟨by have := h5.1; show 0 ≤ vl a r + n; omega, by have := h5.2; show vl a r + n < m + n; omega⟩
  | wi n a ha =>
    intro g r κ h hr
    obtain ⟨⟨rfl, _⟩, m, h1, h4⟩ := h
    have h5 := ha h4 hr
    exact ⟨h5.1, by have := h5.2; show vl a r < n; omega⟩
  | mi l a ha =>
    intro g r κ h hr
    obtain ⟨⟨rfl, _⟩, h4⟩ := h
    have h5 := ha h4 hr
    exact ⟨by have := h5.2; show 0 ≤ l - 1 - vl a r; omega, by have := h5.1; show l - 1 - vl a r < l; omega⟩
  | fk n p x a b hp ha hb =>
    intro g r κ h hr
    obtain ⟨_, h0, m, h1, h2, h3, h4, h5⟩ := h
    have h6 := hp h3 hr
    unfold vl
    split
    · exact ha h4 (hr.up ⟨h6.1, by assumption⟩)
    · exact hb h5 (hr.up ⟨by omega, by have := h6.2; omega⟩)
  | wh a n x b c ha hb hc =>
    intro g r κ h hr
    obtain ⟨_, h0, h1, h2, h3⟩ := h
    have h6 := ha h1 hr
    unfold vl
    split
    · exact hb h2 (hr.up ⟨h6.1, by assumption⟩)
    · exact hc h3 hr
/-! ### scopes -/
/-- a scope of values -/
def ScV (g : Gm) (r : Str → Int) (n : Nat) (sm : Key → Option PyData) : Prop := n ≤ 800 ∧ EnvIn g r ∧ ∀ x κ, g x = some κ → sm (.inr x) = some (.int (r x))
theorem ScV.up {g : Gm} {r : Str → Int} {n : Nat} {sm : Key → Option PyData} {x : Str} {κ : Kd} {v : Int} (h : ScV g r n sm) (hn : n < 800) (hv : inK κ v) : ScV (upG g x κ) (upR r x v) (n + 1) (putM sm (.inr x) (.int v)) := by
  refine ⟨hn, h.2.1.up hv, fun z κ' hz => ?_⟩
  unfold putM
  by_cases e : z = x
  · subst e
    rw [if_pos rfl]
    show some (PyData.int v) = some (.int (if z = z then v else r z))
    rw [if_pos rfl]
  · rw [if_neg (fun q => e (Sum.inr.inj q))]
    unfold upG at hz
    rw [if_neg e] at hz
    show _ = some (PyData.int (if z = x then v else r z))
    rw [if_neg e]
    exact h.2.2 z κ' hz
/-- a scope of kinds -/
def ScK (g : Gm) (n : Nat) (sm : Key → Option PyData) : Prop := n ≤ 800 ∧ ∀ x κ, g x = some κ → sm (.inr x) = some (encK κ)
theorem ScK.up {g : Gm} {n : Nat} {sm : Key → Option PyData} {x : Str} {κ : Kd} (h : ScK g n sm) (hn : n < 800) : ScK (upG g x κ) (n + 1) (putM sm (.inr x) (encK κ)) := by
  refine ⟨hn, fun z κ' hz => ?_⟩
  unfold putM
  unfold upG at hz
  by_cases e : z = x
  · subst e
    rw [if_pos rfl] at hz ⊢
    cases hz
    rfl
  · rw [if_neg (fun q => e (Sum.inr.inj q))]
    rw [if_neg e] at hz
    exact h.2 z κ' hz

/-! ### the runner -/
def RunAt (K : PySem.W.Frag) (M : Mem) (ro : Addr) : Prop := ∃ dx fs, M ro = some (.ins (He.ga K "PlainRun") dx fs) ∧ fs.lookup ("come" : Str) = none ∧ fs.lookup ("weighed" : Str) = none
theorem RunAt.less {K : PySem.W.Frag} {M M2 : Mem} {ro : Addr} (h : RunAt K M ro) (s : Sub M M2) : RunAt K M2 ro := by
  obtain ⟨dx, fs, h1, h2, h3⟩ := h
  exact ⟨dx, fs, s _ _ h1, h2, h3⟩
def T_come (K : PySem.W.Frag) (h : Nat) : Tr := fun ys M k => Stop (∃ (e : Ex) (ro : Addr) (g : Gm) (r : Str → Int) (nn : Nat) (sm nm : Key → Option PyData) (κ : Kd), ys = [.v (.ref ro), .d (code e), .dk nn sm, .dk 0 nm] ∧ (ht e ≤ h ∧ RunAt K M ro ∧ Ty e g κ ∧ ScV g r nn sm ∧ nn + ht e ≤ 800) ∧ k (.d (.int (vl e r))) M)
end Sx
namespace Sx
open PySem PySem.Spec PyProof.Rows L2
/-! ### the finder -/
def finO (fo : Addr) (r c : Int) : List (Str × Sy) := [("finds", .v (.ref fo)), ("row", .d (.int r)), ("names", .d (.tuple [])), ("count", .d (.int c))]
structure Fin (K : PySem.W.Frag) (M : Mem) (fi fo kd dx : Addr) (r c : Int) (nk : Nat) (mm : List Key → Option PyData) : Prop where
  fi_ : M fi = some (.ins (He.ga K "Finder") dx (finO fo r c))
  fo_ : ∃ dx2 fs, M fo = some (.ins (He.ga K "Found") dx2 fs) ∧ fs.lookup ("kinds" : Str) = some (.v (.ref kd))
  kd_ : M kd = some (.dT nk mm)
  n1 : fi ≠ fo
  n2 : kd ≠ fo
  n3 : fi ≠ kd
structure Aft (K : PySem.W.Frag) (M M' : Mem) (fi fo kd dx : Addr) (r c c' : Int) (nk nk' : Nat) (mm mm' : List Key → Option PyData) : Prop where
  fi_ : M' fi = some (.ins (He.ga K "Finder") dx (finO fo r c'))
  kd_ : M' kd = some (.dT nk' mm')
  fr : ∀ a, a ≠ fi → a ≠ kd → M' a = M a
  km : ∀ j, (j ≤ c ∨ c' < j) → mm' [.inl r, .inl j] = mm [.inl r, .inl j]
  kr : ∀ r' j, r' ≠ r → mm' [.inl r', .inl j] = mm [.inl r', .inl j]
section
variable {K : PySem.W.Frag} {M M' M2 : Mem} {fi fo kd dx : Addr} {r c c' c2 : Int} {nk nk' nk2 : Nat} {mm mm' mm2 : List Key → Option PyData}
theorem Fin.after (F : Fin K M fi fo kd dx r c nk mm) (A : Aft K M M' fi fo kd dx r c c' nk nk' mm mm') : Fin K M' fi fo kd dx r c' nk' mm' :=
  ⟨A.fi_, by obtain ⟨dx2, fs, h1, h2⟩ := F.fo_; exact ⟨dx2, fs, by rw [A.fr fo F.n1.symm F.n2.symm]; exact h1, h2⟩, A.kd_, F.n1, F.n2, F.n3⟩
theorem Aft.trans (A : Aft K M M' fi fo kd dx r c c' nk nk' mm mm') (B : Aft K M' M2 fi fo kd dx r c' c2 nk' nk2 mm' mm2) (h1 : c ≤ c') (h2 : c' ≤ c2) : Aft K M M2 fi fo kd dx r c c2 nk nk2 mm mm2 :=
  ⟨B.fi_, B.kd_, fun a q1 q2 => (B.fr a q1 q2).trans (A.fr a q1 q2), fun j hj => (B.km j (by omega)).trans (A.km j (by omega)), fun r' j hr => (B.kr r' j hr).trans (A.kr r' j hr)⟩
theorem Aft.refl (F : Fin K M fi fo kd dx r c nk mm) : Aft K M M fi fo kd dx r c c nk nk mm mm := ⟨F.fi_, F.kd_, fun _ _ _ => rfl, fun _ _ => rfl, fun _ _ _ => rfl⟩
theorem Aft.cast (A : Aft K M M' fi fo kd dx r c c' nk nk' mm mm') (h : c' = c2) (h2 : nk' = nk2) : Aft K M M' fi fo kd dx r c c2 nk nk2 mm mm' := by rw [← h, ← h2]; exact A
theorem Kn.frame : ∀ (e : Ex) {c : Int}, Kn mm r c e → (∀ j, c ≤ j → j < c + (sz e : Nat) → mm' [.inl r, .inl j] = mm [.inl r, .inl j]) → Kn mm' r c e := by
  intro e
  induction e with
  | num n => intros; exact True.intro
  | nm x => intros; exact True.intro
  | len n => intros; exact True.intro
  | pl a b => intros; exact True.intro
  | rk w a b ha hb =>
    intro c h hf
    simp only [sz] at hf
    exact ⟨ha h.1 fun j q1 q2 => hf j (by omega) (by omega), hb h.2 fun j q1 q2 => hf j (by omega) (by omega)⟩
  | ite a b d ha hb hd =>
    intro c h hf
    simp only [sz] at hf
    exact ⟨ha h.1 fun j q1 q2 => hf j (by omega) (by omega), hb h.2.1 fun j q1 q2 => hf j (by omega) (by omega), hd h.2.2 fun j q1 q2 => hf j (by omega) (by omega)⟩
  | lt x a b ha hb =>
    intro c h hf
    simp only [sz] at hf
    exact ⟨ha h.1 fun j q1 q2 => hf j (by omega) (by omega), hb h.2 fun j q1 q2 => hf j (by omega) (by omega)⟩
  | va a ha =>
    intro c h hf
    simp only [sz] at hf
    exact ha (c := c + 1) h fun j q1 q2 => hf j (by omega) (by omega)
  | up n a ha =>
    intro c h hf
    simp only [sz] at hf
    exact ha (c := c + 1) h fun j q1 q2 => hf j (by omega) (by omega)
  | wi n a ha =>
    intro c h hf
    simp only [sz] at hf
    exact ha (c := c + 1) h fun j q1 q2 => hf j (by omega) (by omega)
  | mi l a ha =>
    intro c h hf
    simp only [sz] at hf
    exact ⟨(hf c (by omega) (by omega)).trans h.1, ha h.2 fun j q1 q2 => hf j (by omega) (by omega)⟩
  | fk n p x a b hp ha hb =>
    intro c h hf
    simp only [sz] at hf
    exact ⟨hp h.1 fun j q1 q2 => hf j (by omega) (by omega), ha h.2.1 fun j q1 q2 => hf j (by omega) (by omega), hb h.2.2 fun j q1 q2 => hf j (by omega) (by omega)⟩
  | wh a n x b d ha hb hd =>
    intro c h hf
    simp only [sz] at hf
    exact ⟨ha h.1 fun j q1 q2 => hf j (by omega) (by omega), hb h.2.1 fun j q1 q2 => hf j (by omega) (by omega), hd h.2.2 fun j q1 q2 => hf j (by omega) (by omega)⟩
/-- the kids' part -/
def KnK (mm : List Key → Option PyData) (r : Int) : Int → Ex → Prop
  | c, .mi _ a => Kn mm r (c + 1) a
  | c, e => Kn mm r c e
theorem kn_own {e : Ex} (h : KnK mm r c e) (ho : ∀ l a, e = .mi l a → mm [.inl r, .inl c] = some (encK (.place l))) : Kn mm r c e := by
  cases e with
  | mi l a => exact ⟨ho l a rfl, h⟩
  | _ => exact h
theorem knK_frame {e : Ex} (h : KnK mm r c e) (hf : ∀ j, c < j → j < c + (sz e : Nat) → mm' [.inl r, .inl j] = mm [.inl r, .inl j]) : KnK mm' r c e := by
  cases e with
  | mi l a => exact Kn.frame a (c := c + 1) h fun j q1 q2 => hf j (by omega) (by simp only [sz]; omega)
  | num n => exact True.intro
  | nm x => exact True.intro
  | len n => exact True.intro
  | pl a b => exact True.intro
  | rk w a b => simp only [sz] at hf; exact ⟨Kn.frame a h.1 fun j q1 q2 => hf j (by omega) (by omega), Kn.frame b h.2 fun j q1 q2 => hf j (by omega) (by omega)⟩
  | ite a b d => simp only [sz] at hf; exact ⟨Kn.frame a h.1 fun j q1 q2 => hf j (by omega) (by omega), Kn.frame b h.2.1 fun j q1 q2 => hf j (by omega) (by omega), Kn.frame d h.2.2 fun j q1 q2 => hf j (by omega) (by omega)⟩
  | lt x a b => simp only [sz] at hf; exact ⟨Kn.frame a h.1 fun j q1 q2 => hf j (by omega) (by omega), Kn.frame b h.2 fun j q1 q2 => hf j (by omega) (by omega)⟩
  | va a => simp only [sz] at hf; exact Kn.frame a (c := c + 1) h fun j q1 q2 => hf j (by omega) (by omega)
  | up n a => simp only [sz] at hf; exact Kn.frame a (c := c + 1) h fun j q1 q2 => hf j (by omega) (by omega)
  | wi n a => simp only [sz] at hf; exact Kn.frame a (c := c + 1) h fun j q1 q2 => hf j (by omega) (by omega)
  | fk n p x a b => simp only [sz] at hf; exact ⟨Kn.frame p h.1 fun j q1 q2 => hf j (by omega) (by omega), Kn.frame a h.2.1 fun j q1 q2 => hf j (by omega) (by omega), Kn.frame b h.2.2 fun j q1 q2 => hf j (by omega) (by omega)⟩
  | wh a n x b d => simp only [sz] at hf; exact ⟨Kn.frame a h.1 fun j q1 q2 => hf j (by omega) (by omega), Kn.frame b h.2.1 fun j q1 q2 => hf j (by omega) (by omega), Kn.frame d h.2.2 fun j q1 q2 => hf j (by omega) (by omega)⟩
/-- kept by what comes behind -/
theorem Kn.keep {e : Ex} {c0 : Int} (h : Kn mm r c0 e) (A : Aft K M M' fi fo kd dx r c c' nk nk' mm mm') (q : c0 + (sz e : Nat) ≤ c + 1) : Kn mm' r c0 e := h.frame e fun j _ q2 => A.km j (.inl (by omega))
theorem Kn.at_ {e : Ex} (h : Kn mm r c e) (q : c = c') : Kn mm r c' e := q ▸ h
end
def kword : Kd → Str
  | .whole => "whole"
  | .place _ => "place"

section
variable {K : PySem.W.Frag} {M M' M1 : Mem} {fi fo kd dx : Addr} {r c c' : Int} {nk nk' : Nat} {mm mm1 : List Key → Option PyData} {d : PyData}
theorem fl_kind_of : (finO fo r c).lookup ("kind_of" : Str) = none := by with_unfolding_all rfl
theorem fl_own : (finO fo r c).lookup ("own" : Str) = none := by with_unfolding_all rfl
theorem fl_wanted : (finO fo r c).lookup ("wanted" : Str) = none := by with_unfolding_all rfl
theorem fl_within : (finO fo r c).lookup ("within" : Str) = none := by with_unfolding_all rfl
theorem fl_same : (finO fo r c).lookup ("same" : Str) = none := by with_unfolding_all rfl
theorem fl_count : (finO fo r c).lookup ("count" : Str) = some (.d (.int c)) := by with_unfolding_all rfl
theorem fl_row : (finO fo r c).lookup ("row" : Str) = some (.d (.int r)) := by with_unfolding_all rfl
theorem fl_names : (finO fo r c).lookup ("names" : Str) = some (.d (.tuple [])) := by with_unfolding_all rfl
theorem fl_finds : (finO fo r c).lookup ("finds" : Str) = some (.v (.ref fo)) := by with_unfolding_all rfl
theorem put_count {v : Int} : putY ("count" : Str) (.d (.int v)) (finO fo r c) = finO fo r v := by with_unfolding_all rfl
theorem Fin.count (F : Fin K M fi fo kd dx r c nk mm) : Fin K (updM M fi (.ins (He.ga K "Finder") dx (finO fo r c'))) fi fo kd dx r c' nk mm :=
  ⟨updM_same, by obtain ⟨dx2, fs, h1, h2⟩ := F.fo_; exact ⟨dx2, fs, by rw [updM_ne F.n1.symm]; exact h1, h2⟩, by rw [updM_ne F.n3.symm]; exact F.kd_, F.n1, F.n2, F.n3⟩
theorem node_done (F : Fin K M fi fo kd dx r c nk mm) (A : Aft K (updM M fi (.ins (He.ga K "Finder") dx (finO fo r (c + 1)))) M1 fi fo kd dx r (c + 1) c' nk nk' mm mm1) (h : c + 1 ≤ c') :
    Aft K M (updM M1 kd (.dT (nk' + 1) (putM mm1 [.inl r, .inl (c + 1)] d))) fi fo kd dx r c c' nk (nk' + 1) mm (putM mm1 [.inl r, .inl (c + 1)] d) := by
  refine ⟨by rw [updM_ne F.n3]; exact A.fi_, updM_same, fun a q1 q2 => ?_, fun j hj => ?_, fun r' j hr => ?_⟩
  · rw [updM_ne q2, A.fr a q1 q2, updM_ne q1]
  · unfold putM
    rw [if_neg (fun q => by
      have q2 : (Sum.inl j : Key) = Sum.inl (c + 1) := by injection q with _ q; injection q
      have q3 : j = c + 1 := Sum.inl.inj q2
      omega)]
    exact A.km j (by omega)
  · unfold putM
    rw [if_neg (fun q => by
      have q2 : (Sum.inl r' : Key) = Sum.inl r := by injection q
      exact hr (Sum.inl.inj q2))]
    exact A.kr r' j hr
theorem node_kn {e : Ex} {g : Gm} {κ : Kd} (h : KnK mm1 r c e) (t : Ty e g κ) : Kn (putM mm1 [.inl r, .inl c] (encK κ)) r c e := by
  refine kn_own (knK_frame h fun j q1 q2 => ?_) fun l a he => ?_
  · unfold putM
    rw [if_neg (fun q => by
      have q2 : (Sum.inl j : Key) = Sum.inl c := by injection q with _ q; injection q
      have q3 : j = c := Sum.inl.inj q2
      omega)]
  · subst he
    obtain ⟨⟨rfl, _⟩, _⟩ := t
    unfold putM
    rw [if_pos rfl]
theorem encK_whole : PyData.tuple [.str "whole"] = encK .whole := rfl
theorem encK_place {n : Int} : PyData.tuple [.str "place", lenD n] = encK (.place n) := rfl
theorem no_unlike : PyData.eqv .none (.tuple [.str "unlike"]) = false := by simp [PyData.eqv]
end
section
variable {X : Cx} {P : Program} {w : World} {K : PySem.W.Frag} {mg : Str → Option Value} {base : Heap} {n : Nat} {G : Ga} {M : Mem} {e o : Expr} {rest : List Stmt} {p pos : Pos} {D : Tends}
theorem ex_fldaddS {f : Str} {pos' : Pos} (C : Cxi X P w K mg base n) (h : EvK X G M o fun y M1 => Stop (∃ (a D' dx : Addr) (gs : List (Str × Sy)) (i : Int), y = .v (.ref a) ∧ M1 a = some (.ins D' dx gs) ∧ Cls K D' ∧ NoAttr K D' f ∧ gs.lookup f = some (.d (.int i)) ∧
      EvK X G M1 e fun z M2 => Stop (∃ (l : Int) (dx' : Addr) (gs' : List (Str × Sy)), z = .d (.int l) ∧ M2 a = some (.ins D' dx' gs') ∧ gs'.length < 1000 ∧ ExK X G (updM M2 a (.ins D' dx' (putY f (.d (.int (i + l))) gs'))) rest D))) : ExK X G M (.AugAssign (.Attribute o f pos') .Add e pos :: rest) D :=
  ex_fldadd C (ev_mono h fun _ _ h => by
    obtain ⟨a, D', dx, gs, i, h1, h2, h3, h4, h5, h6⟩ := h.go
    exact ⟨a, D', dx, gs, i, h1, h2, h3, h4, h5, ev_mono h6 fun _ _ h => h.go⟩)
end
def KGo (K : PySem.W.Frag) (M : Mem) (fi fo kd dx : Addr) (r c : Int) (nk : Nat) (mm : List Key → Option PyData) (e : Ex) (g : Gm) (nn : Nat) (sm : Key → Option PyData) (κ : Kd) : Prop := Fin K M fi fo kd dx r c nk mm ∧ Ty e g κ ∧ ScK g nn sm ∧ nn + ht e ≤ 800 ∧ nk + sz e ≤ 900
/-- one node -/
def T_kindof (K : PySem.W.Frag) (h : Nat) : Tr := fun ys M k => Stop (∃ (e : Ex) (fi fo kd dx : Addr) (r c : Int) (nk : Nat) (mm : List Key → Option PyData) (g : Gm) (nn : Nat) (sm : Key → Option PyData) (κ : Kd), ys = [.v (.ref fi), .d (enc e), .dk nn sm] ∧ (ht e ≤ h ∧ KGo K M fi fo kd dx r c nk mm e g nn sm κ) ∧
  ∀ M' mm', Aft K M M' fi fo kd dx r c (c + (sz e : Nat)) nk (nk + sz e) mm mm' → Kn mm' r (c + 1) e → k (.d (encK κ)) M')
end Sx
namespace Sx
open PySem PySem.Spec PyProof.Rows L2
/-! ### nodes, all alike -/
inductive Itm where
  | n (i : Int)
  | x (s : Str)
  | l (m : Int)
  | w (s : Str)
  | e (a : Ex)
def Itm.sy : Itm → Sy
  | .n i => .d (.tuple [.str "n", .int i])
  | .x s => .d (.tuple [.str "x", .str s])
  | .l m => .d (.tuple [.str "l", lenD m])
  | .w s => .d (.tuple [.str "w", .str s])
  | .e a => .d (.tuple [.str "e", enc a])
def Itm.arg : Itm → PyData
  | .n i => .int i
  | .x s => .str s
  | .l m => lenD m
  | .w s => .str s
  | .e a => enc a
def Itm.out : Itm → PyData
  | .n i => .int i
  | .x s => .str s
  | .l m => lenD m
  | .w s => .str s
  | .e a => code a
def Itm.kid : Itm → List Ex
  | .e a => [a]
  | _ => []
def Itm.ok : Itm → Prop
  | .n i => 0 ≤ i ∧ i < 1000000000000
  | .x s => nameOk s
  | .l m => lenOk m
  | .w s => wordOk s
  | .e _ => True
def itms : Ex → List Itm
  | .num n => [.n n]
  | .nm x => [.x x]
  | .len n => [.l n]
  | .rk w a b => [.w w, .e a, .e b]
  | .ite a b c => [.e a, .e b, .e c]
  | .lt x a b => [.x x, .e a, .e b]
  | .pl a b => [.l a, .l b]
  | .va a => [.e a]
  | .up n a => [.l n, .e a]
  | .wi n a => [.l n, .e a]
  | .mi _ a => [.e a]
  | .fk n p x a b => [.l n, .e p, .x x, .e a, .e b]
  | .wh a n x b c => [.e a, .l n, .x x, .e b, .e c]
def wordE : Ex → Str
  | .num _ => "number"
  | .nm _ => "name"
  | .len _ => "length"
  | .rk _ _ _ => "reckon"
  | .ite _ _ _ => "if"
  | .lt _ _ _ => "let"
  | .pl _ _ => "place"
  | .va _ => "value"
  | .up _ _ => "up"
  | .wi _ _ => "wide"
  | .mi _ _ => "mirror"
  | .fk _ _ _ _ _ => "fork"
  | .wh _ _ _ _ _ => "when"
def shapeE : Ex → Str
  | .num _ => "n"
  | .nm _ => "x"
  | .len _ => "l"
  | .rk _ _ _ => "wee"
  | .ite _ _ _ => "eee"
  | .lt _ _ _ => "xee"
  | .pl _ _ => "ll"
  | .va _ => "e"
  | .up _ _ => "le"
  | .wi _ _ => "le"
  | .mi _ _ => "e"
  | .fk _ _ _ _ _ => "lexee"
  | .wh _ _ _ _ _ => "elxee"
abbrev argsE (e : Ex) : List PyData := (itms e).map Itm.arg
def szs (its : List Itm) : Nat := ((its.flatMap Itm.kid).map sz).sum
theorem enc_eq (e : Ex) : enc e = .tuple (.str (wordE e) :: argsE e) := by cases e <;> rfl
theorem sz_itms (e : Ex) : sz e = 1 + szs (itms e) := by cases e <;> simp [sz, szs, itms, Itm.kid] <;> omega
theorem kids_itms (e : Ex) : (itms e).flatMap Itm.kid = kids e := by cases e <;> rfl
theorem shape_len (e : Ex) : (shapeE e).cps.size = (argsE e).length := by cases e <;> with_unfolding_all rfl
theorem shape_len2 (e : Ex) : (shapeE e).length = (argsE e).length := by cases e <;> with_unfolding_all rfl
theorem zip_itms (e : Ex) : zipL (shapeE e).cps.toList (argsE e) = (itms e).map Itm.sy := by cases e <;> with_unfolding_all rfl
theorem itms_ne (e : Ex) : argsE e ≠ [] := by cases e <;> exact List.cons_ne_nil _ _
theorem itms_len (e : Ex) : (itms e).length ≤ 5 := by cases e <;> exact Nat.le_of_ble_eq_true rfl
theorem args_len (e : Ex) : (argsE e).length ≤ 5 := by rw [List.length_map]; exact itms_len e
theorem shape_at {w : World} {K : PySem.W.Frag} {mg : Str → Option Value} (E : Fx w K mg) (e : Ex) : KDct K w (He.ga K "SHAPES") (wordE e) (.str (shapeE e)) := by
  cases e
  · exact E.t_SHAPES_number
  · exact E.t_SHAPES_name
  · exact E.t_SHAPES_length
  · exact E.t_SHAPES_reckon
  · exact E.t_SHAPES_if
  · exact E.t_SHAPES_let
  · exact E.t_SHAPES_place
  · exact E.t_SHAPES_value
  · exact E.t_SHAPES_up
  · exact E.t_SHAPES_wide
  · exact E.t_SHAPES_mirror
  · exact E.t_SHAPES_fork
  · exact E.t_SHAPES_when
theorem word_call (e : Ex) : decide (wordE e = "call") = false := by cases e <;> exact decide_eq_false (by simp only [wordE]; decide)
theorem word_row (e : Ex) : decide (wordE e = "row") = false := by cases e <;> exact decide_eq_false (by simp only [wordE]; decide)
theorem word_fold (e : Ex) : decide (wordE e = "fold") = false := by cases e <;> exact decide_eq_false (by simp only [wordE]; decide)
theorem word_turn (e : Ex) : decide (wordE e = "turn") = false := by cases e <;> exact decide_eq_false (by simp only [wordE]; decide)
theorem mi_or (e : Ex) : (∃ l a, e = .mi l a) ∨ (decide (wordE e = "mirror") = false ∧ code e = .tuple (.str (wordE e) :: (itms e).map Itm.out)) := by
  cases e
  case mi l a => exact .inl ⟨l, a, rfl⟩
  all_goals exact .inr ⟨decide_eq_false (by simp only [wordE]; decide), rfl⟩
theorem nd_item {e : Ex} (h : ndOk e) : ∀ it ∈ itms e, it.ok := by
  intro it hi
  cases e <;> simp only [itms, List.mem_cons, List.not_mem_nil, or_false] at hi
  all_goals first
    | (rcases hi with rfl | rfl | rfl | rfl | rfl <;> first | exact True.intro | exact h | exact h.1 | exact h.2)
    | (rcases hi with rfl | rfl | rfl <;> first | exact True.intro | exact h | exact h.1 | exact h.2)
    | (rcases hi with rfl | rfl <;> first | exact True.intro | exact h | exact h.1 | exact h.2)
    | (subst hi; first | exact True.intro | exact h)
theorem kn_item {e : Ex} {mm : List Key → Option PyData} {r c : Int} (h : Kn mm r c e) : ∀ (i : Nat) (a : Ex), (itms e)[i]? = some (.e a) → Kn mm r (c + 1 + (szs ((itms e).take i) : Nat)) a ∧ ht a + 1 ≤ ht e := by
  intro i a hi
  have hh : ht a + 1 ≤ ht e := by
    refine ht_kids ?_
    rw [← kids_itms]
    exact List.mem_flatMap.mpr ⟨.e a, List.mem_of_getElem? hi, by simp [Itm.kid]⟩
  refine ⟨?_, hh⟩
  cases e <;> rcases i with _ | _ | _ | _ | _ | i <;> simp [itms] at hi
  all_goals
    subst hi
    simp only [Kn] at h
    first
      | exact h
      | exact h.1
      | exact h.2
      | (refine Kn.at_ h ?_; simp [itms, szs, Itm.kid]; done)
      | (refine Kn.at_ h ?_; simp [itms, szs, Itm.kid]; omega)
      | (refine Kn.at_ h.1 ?_; simp [itms, szs, Itm.kid]; done)
      | (refine Kn.at_ h.2 ?_; simp [itms, szs, Itm.kid]; done)
      | (refine Kn.at_ h.2 ?_; simp [itms, szs, Itm.kid]; omega)
      | (refine Kn.at_ h.2.1 ?_; simp [itms, szs, Itm.kid]; done)
      | (refine Kn.at_ h.2.1 ?_; simp [itms, szs, Itm.kid]; omega)
      | (refine Kn.at_ h.2.2 ?_; simp [itms, szs, Itm.kid]; done)
      | (refine Kn.at_ h.2.2 ?_; simp [itms, szs, Itm.kid]; omega)
theorem take_next {A : Type} {l : List A} {i : Nat} {x : A} (h : l[i]? = some x) : l.take (i + 1) = l.take i ++ [x] := by
  rw [List.take_add_one, h]
  rfl
theorem szs_next {its : List Itm} {i : Nat} {x : Itm} (h : its[i]? = some x) : szs (its.take (i + 1)) = szs (its.take i) + (x.kid.map sz).sum := by
  rw [take_next h]
  unfold szs
  rw [List.flatMap_append, List.map_append, List.sum_append]
  simp
theorem sk_tail {X : Cx} {M : Mem} {k : Sy → Mem → Prop} {d : PyData} {r : List PyData} (hr : r ≠ []) (q : k (.d (.tuple r)) M) : SlK X (.d (.tuple (d :: r))) (some 1) none M k := by
  cases r with
  | nil => exact absurd rfl hr
  | cons d2 r => exact sk_tup1 q
theorem outs_next {its : List Itm} {i : Nat} {x : Itm} {z : Sy} (h : its[i]? = some x) : (z :: ((its.take i).map Itm.out).map Sy.d) ++ [Sy.d x.out] = z :: ((its.take (i + 1)).map Itm.out).map Sy.d := by
  rw [take_next h, List.map_append, List.map_append]
  rfl
theorem kids_next {its : List Itm} {i : Nat} {x : Itm} (h : its[i]? = some x) : (its.take (i + 1)).flatMap Itm.kid = (its.take i).flatMap Itm.kid ++ x.kid := by
  rw [take_next h, List.flatMap_append]
  simp
theorem itm_get {e : Ex} {i : Nat} {y : Sy} (h : ((itms e).map Itm.sy)[i]? = some y) : ∃ it, (itms e)[i]? = some it ∧ y = it.sy := by
  rw [List.getElem?_map] at h
  obtain ⟨it, h1, h2⟩ := Option.map_eq_some_iff.mp h
  exact ⟨it, h1, h2.symm⟩
end Sx
namespace Sx
open PySem PySem.Spec PyProof.Rows L2
section
variable {X : Cx} {P : Program} {w : World} {K : PySem.W.Frag} {mg : Str → Option Value} {base : Heap} {n j : Nat} {G : Ga} {M M' : Mem} {k : Sy → Mem → Prop} {e o : Expr} {es : List Expr} {st : List Stmt} {x m : Str} {p pos apos : Pos} {T : Tr} {D : Tends}
theorem ex_M (h : M = M') (q : ExK X G M' st D) : ExK X G M st D := by rw [h]; exact q
theorem gvl_cls {a : Addr} (h : mg x = some (.ref a)) (hd : (x == ("__debug__" : Str)) = false := by decide) : Gvl K mg x (.v (.ref a)) := ⟨⟨.ref a, .ref a, h, rfl, fun _ => .v⟩, hd⟩
theorem ev_meth0S {D : Addr} (C : Cxi X P w K mg base n) (F : Mfn P w K mg base D m j T) (hj : j ≤ n)
    (h : EvK X G M o fun y M1 => Stop (∃ (a dx : Addr) (gs : List (Str × Sy)), y = .v (.ref a) ∧ M1 a = some (.ins D dx gs) ∧ gs.lookup m = none ∧ T [y] M1 k))
    (ht : eval (.Call (.Attribute o m apos) [] [] pos) X.env = (do
      let ov ← eval o X.env
      standAt apos.atName
      let (f, first) ← holding [ov] (getMethod ov m (plOf o X.env))
      callWith pos f first (backTo pos (starEach [] X.env)) (backToKw pos (keywordEach [] X.env)))) : EvK X G M (.Call (.Attribute o m apos) [] [] pos) k := ev_meth0 C F hj (ev_mono h fun _ _ h => h.go) ht
theorem ev_clsCallS {D : Addr} (C : Cxi X P w K mg base n) (F : Cfn P w K mg base D m j T) (hj : j ≤ n)
    (h : EvK X G M o fun y M1 => y = .v (.ref D) ∧ EaK X G M1 (e :: es) fun ys M2 => T ys M2 k)
    (hst : starEach (e :: es) X.env = (false, eval e X.env) :: starEach es X.env) (hpl : (backTo pos (starEach es X.env)).any (·.1) = false)
    (ht : eval (.Call (.Attribute o m apos) (e :: es) [] pos) X.env = (do
      let ov ← eval o X.env
      standAt apos.atName
      let (f, first) ← holding [ov] (getMethod ov m (plOf o X.env))
      callWith pos f first (backTo pos (starEach (e :: es) X.env)) (backToKw pos (keywordEach [] X.env)))) : EvK X G M (.Call (.Attribute o m apos) (e :: es) [] pos) k := ev_clsCall C F hj h hst hpl ht
def NewI (M : Mem) (p : Addr → Addr → Prop) : Prop := ∀ a dx, M a = none → p a dx
theorem newI {p : Addr → Addr → Prop} (h : ∀ a dx, M a = none → p a dx) : NewI M p := h
theorem ev_makeS {D : Addr} (C : Cxi X P w K mg base n) (F : Mak P w K mg base x D j T) (hj : j + 1 ≤ n) (hg : Gl X x)
    (h : EaK X G M (e :: es) fun ys M1 => NewI M1 fun a dx => T (.v (.ref a) :: ys) (updM M1 a (.ins D dx [])) fun z M2 => z = .d .none ∧ k (.v (.ref a)) M2)
    (he : starEach (e :: es) X.env = (false, eval e X.env) :: starEach es X.env) (hpl : (backTo pos (starEach es X.env)).any (·.1) = false) : EvK X G M (.Call (.Name x p) (e :: es) [] pos) k := ev_make C F hj hg h he hpl
theorem ev_neg1 {kk : Nat} {p1 p2 : Pos} (q : k (.d (.int (-1))) M) : EvK X G M (.UnaryOp .USub (.Constant (.int 1) kk p1) p2) k :=
  ev_of (pe_un un_neg pe_int) fun σ S H Q sa sp po => ⟨1, rfl, po _ _ M S H q (Same.refl S) sp (.d (.int _))⟩
theorem isa_rev {S : Hp} : ∀ {xs : List V} {ys : List Sy}, IsA K S xs ys → IsA K S xs.reverse ys.reverse
  | _, _, .nil => .nil
  | _, _, .cons h1 h2 => by
    rw [List.reverse_cons, List.reverse_cons]
    exact isa_append (isa_rev h2) (.cons h1 .nil)
/-- xs[::-1], a new list of the memory -/
theorem ev_revM {kk : Nat} {p1 p2 p3 : Pos} (h : EvK X G M e fun y M1 => ∃ f ys, y = .v (.ref f) ∧ M1 f = some (.lst ys) ∧ Fresh M1 fun a => k (.v (.ref a)) (updM M1 a (.lst ys.reverse))) : EvK X G M (.Subscript e (.Slice none none (some (.UnaryOp .USub (.Constant (.int 1) kk p1) p2)) p3) pos) k :=
  ev_of (pe_revL sE) fun σ S H Q sa sp po => h.go sa sp fun v y M1 S1 H1 ⟨f, ys, ey, hm, h1⟩ e1 sa1 sp1 is1 => by
    subst ey
    obtain ⟨_, o, h2, h3⟩ := sp1.mem f _ hm
    cases h3 with
    | lst h3 =>
      refine ⟨f, _, is_val is1, .inl (.inl h2), fun p hp => ?_⟩
      exact po _ _ _ S1 _ (h1 p (sp1.freeM hp)) e1 (sp1.lay hp (.lst (isa_rev h3))) .v
theorem ints_lay : ∀ ns : List Int, PyData.canLayAll0 (ns.map PyData.int) = true
  | [] => by simp [PyData.canLayAll0]
  | n :: ns => by simp [PyData.canLayAll0, PyData.canLay0, ints_lay ns]
theorem ints_depth : ∀ ns : List Int, PyData.depthAll (ns.map PyData.int) ≤ 1
  | [] => by simp [PyData.depthAll]
  | n :: ns => by
    have h := ints_depth ns
    simp only [List.map_cons, PyData.depthAll, PyData.depth]
    omega
theorem ints_shaped (ns : List Int) : SeqAt.shaped (.list (ns.map PyData.int)) = true := by
  have h1 := ints_depth ns
  have h2 : PyData.depth (.list (ns.map PyData.int)) ≤ 64 := by
    simp only [PyData.depth]
    omega
  show (PyData.canLay0 (.list (ns.map PyData.int)) && decide (PyData.depth (.list (ns.map PyData.int)) ≤ 64)) = true
  rw [Bool.and_eq_true]
  exact ⟨by simp only [PyData.canLay0]; exact ints_lay ns, decide_eq_true h2⟩
abbrev intL (ns : List Int) : List Sy := (ns.map PyData.int).map Sy.d
/-- a list of ints of the memory == [] -/
theorem ok_eqM0 {f : Addr} {ns : List Int} (C : Cxi X P w K mg base n) (hm : M f = some (.lst (intL ns))) (q : k (.d (.bool ns.isEmpty)) M) : OpK X (compareOp .Eq) (.v (.ref f)) (.sl []) M k :=
  ok_of (op_eqD C.room.units) fun S H x1 x2 Q sp i1 i2 po => by
    obtain ⟨_, o, h1, h2⟩ := sp.mem f _ hm
    have e0 := is_val i1
    subst e0
    cases h2 with
    | lst h2 =>
      cases i2 with
      | sl g1 g2 =>
        cases g2
        refine ⟨.list (ns.map PyData.int), .list [], .lst (.inl (.inl h1)) (dqa_dpa _ _ (dpa_mono sp.sub _ _ (isa_dpa h2))), .lst (.inl (.inl (sp.sub _ _ g1))) .nil, ints_shaped ns, by decide +kernel, ?_⟩
        have e : PyData.eqv (.list (ns.map PyData.int)) (.list []) = ns.isEmpty := by
          cases ns with
          | nil => simp [PyData.eqv, PyData.eqvAll]
          | cons a l => simp [PyData.eqv, PyData.eqvAll]
        rw [e]
        exact po _ _ M S H q (Same.refl S) sp (.d (.bl _))
end
/-! ### what is found of a program, the runner -/
def foO (es : List Ex) (kd : Addr) : List (Str × Sy) := [("lines", .sl ((es.map rowE).map Sy.d)), ("defs", .dk 0 fun _ => none), ("kinds", .v (.ref kd)), ("binds", .dk 0 fun _ => none)]
def runO (fo as_ : Addr) : List (Str × Sy) := [("steps", .d (.int 0)), ("found", .v (.ref fo)), ("defs", .dk 0 fun _ => none), ("asks", .v (.ref as_))]
def g0 : Gm := fun _ => none
def r0 : Str → Int := fun _ => 0
theorem scK0 {sm : Key → Option PyData} : ScK g0 0 sm := ⟨by omega, fun _ _ (h : none = some _) => by cases h⟩
theorem scV0 {sm : Key → Option PyData} : ScV g0 r0 0 sm := ⟨by omega, fun _ _ (h : none = some _) => (by cases h), fun _ _ (h : none = some _) => (by cases h)⟩
def askOk (e : Ex) : Prop := exOk e ∧ Ty e g0 .whole
section
variable {es : List Ex} {kd fo as_ : Addr}
theorem fo_lines : (foO es kd).lookup ("lines" : Str) = some (.sl ((es.map rowE).map Sy.d)) := by with_unfolding_all rfl
theorem fo_kinds : (foO es kd).lookup ("kinds" : Str) = some (.v (.ref kd)) := by with_unfolding_all rfl
theorem fo_kind_at : (foO es kd).lookup ("kind_at" : Str) = none := by with_unfolding_all rfl
theorem fo_rows : (foO es kd).lookup ("rows" : Str) = none := by with_unfolding_all rfl
theorem ro_come : (runO fo as_).lookup ("come" : Str) = none := by with_unfolding_all rfl
theorem ro_weighed : (runO fo as_).lookup ("weighed" : Str) = none := by with_unfolding_all rfl
theorem ro_begin : (runO fo as_).lookup ("begin" : Str) = none := by with_unfolding_all rfl
theorem ro_asked : (runO fo as_).lookup ("asked" : Str) = none := by with_unfolding_all rfl
theorem ro_asks : (runO fo as_).lookup ("asks" : Str) = some (.v (.ref as_)) := by with_unfolding_all rfl
theorem ro_steps : (runO fo as_).lookup ("steps" : Str) = some (.d (.int 0)) := by with_unfolding_all rfl
theorem put_steps : putY ("steps" : Str) (.d (.int 0)) (runO fo as_) = runO fo as_ := by with_unfolding_all rfl
end
theorem updM_self {M : Mem} {a : Addr} {t : TO} (h : M a = some t) : updM M a t = M := by
  funext b
  unfold updM
  split
  · rename_i e; rw [e]; exact h.symm
  · rfl
end Sx
namespace Sx
open PySem PySem.Spec PyProof.Rows L2
section
variable {X : Cx} {P : Program} {w : World} {K : PySem.W.Frag} {mg : Str → Option Value} {base : Heap} {n : Nat} {M : Mem} {k : Sy → Mem → Prop} {ys : List Sy} {l : Int} {f : Addr}
/-- [..][l], l not written -/
theorem it_slAny (h0 : 0 ≤ l) (h1 : l < (ys.length : Nat)) (q : ∀ y, y ∈ ys → k y M) : ItK X (.sl ys) (.d (.int l)) M k := by
  have h2 : l.toNat < ys.length := by omega
  have h3 : ys[l.toNat]? = some ys[l.toNat] := List.getElem?_eq_getElem h2
  exact it_slI (i := l.toNat) (by omega) h3 (q _ (List.getElem_mem h2))
theorem it_memAny (hm : M f = some (.lst ys)) (h0 : 0 ≤ l) (h1 : l < (ys.length : Nat)) (q : ∀ y, y ∈ ys → k y M) : ItK X (.v (.ref f)) (.d (.int l)) M k := by
  have h2 : l.toNat < ys.length := by omega
  have h3 : ys[l.toNat]? = some ys[l.toNat] := List.getElem?_eq_getElem h2
  exact it_memI (i := l.toNat) (by omega) hm h3 (q _ (List.getElem_mem h2))
theorem ok_powK {i j v : Int} (hc : CPow i j) (e : i ^ j.toNat = v) (q : k (.d (.int v)) M) : OpK X (binaryOp .Pow) (.d (.int i)) (.d (.int j)) M k := by
  subst e
  exact ok_pow hc q
theorem intL_in {ns : List Int} {y : Sy} (h : y ∈ intL ns) : ∃ v, v ∈ ns ∧ y = .d (.int v) := by
  obtain ⟨d, h1, rfl⟩ := List.mem_map.mp h
  obtain ⟨v, h2, rfl⟩ := List.mem_map.mp h1
  exact ⟨v, h2, rfl⟩
theorem intL_len {ns : List Int} : (intL ns).length = ns.length := by unfold intL; rw [List.length_map, List.length_map]
theorem intL_app {ns : List Int} {v : Int} : intL ns ++ [.d (.int v)] = intL (ns ++ [v]) := by unfold intL; rw [List.map_append, List.map_append]; rfl
theorem intL_set {ns : List Int} {v : Int} {i : Nat} : (intL ns).set i (.d (.int v)) = intL (ns.set i v) := by unfold intL; rw [List.map_set, List.map_set]
theorem intL_rev {ns : List Int} : (intL ns).reverse = intL ns.reverse := by unfold intL; rw [List.map_reverse, List.map_reverse]
end
def nneg (ns : List Int) : Prop := ∀ n ∈ ns, 0 ≤ n
theorem nneg_app {ns : List Int} {v : Int} (h : nneg ns) (hv : 0 ≤ v) : nneg (ns ++ [v]) := fun n hn => by
  rcases List.mem_append.mp hn with hn | hn
  · exact h n hn
  · rw [List.mem_singleton.mp hn]; exact hv
theorem nneg_rev {ns : List Int} (h : nneg ns) : nneg ns.reverse := fun n hn => h n (List.mem_reverse.mp hn)
theorem nneg_nil : nneg [] := fun _ h => absurd h (by simp)
/-! ### what the law makes -/
abbrev xe : Ex := .nm "e"
abbrev xx : Ex := .va (.nm "x")
abbrev L12 : Int := 1000000000000
def PlaceOk (i : Nat) (e : Ex) (at_ below : Int) : Prop := (∀ g r, Ty e g (.place below) ∧ vl e r = at_) ∧ wf e ∧ ht e ≤ i ∧ sz e ≤ 1 + i ∧ 0 ≤ at_ ∧ at_ < below ∧ below ≤ 30 + 19 * i ∧ i ≤ 2
def DeedOk (now : Int) (e : Ex) (due : Int) : Prop := (∀ g r, g "e" = some .whole → r "e" = now → Ty e g .whole ∧ vl e r = due) ∧ wf e ∧ ht e ≤ 4 ∧ sz e ≤ 12 ∧ 0 ≤ due ∧ due < L12
def ToldOk (i : Nat) (e : Ex) (now : Int) : Prop := (∀ g r, Ty e g .whole ∧ vl e r = now) ∧ wf e ∧ ht e ≤ (if i = 0 then 0 else 4 + i) ∧ sz e ≤ 1 + 13 * i ∧ 0 ≤ now ∧ now < L12 ∧ i ≤ 3
section
variable {i : Nat} {e : Ex} {at_ below more now due : Int}
theorem place_0 {a b : Int} (h0 : 0 ≤ a) (h1 : a < b) (h2 : b ≤ 30) : PlaceOk 0 (.pl a b) a b :=
  ⟨fun g r => ⟨⟨rfl, h0, by omega, by omega⟩, rfl⟩, ⟨⟨h0, by omega⟩, ⟨by omega, by omega⟩⟩, Nat.le_refl _, Nat.le_refl _, h0, h1, by omega, by omega⟩
theorem place_up (h : PlaceOk i e at_ below) (hi : i < 2) (h0 : 0 ≤ more) (h1 : more < 20) : PlaceOk (i + 1) (.up more e) (at_ + more) (below + more) := by
  obtain ⟨a1, a2, a3, a4, a5, a6, a7, a8⟩ := h
  refine ⟨fun g r => ⟨⟨below, ⟨rfl, by omega, h0, by omega⟩, (a1 g r).1⟩, by show vl e r + more = _; rw [(a1 g r).2]⟩, ⟨⟨h0, by omega⟩, a2⟩, by simp only [ht]; omega, by simp only [sz]; omega, by omega, by omega, by omega, by omega⟩
theorem place_wi (h : PlaceOk i e at_ below) (hi : i < 2) (h0 : 0 ≤ more) (h1 : more < 20) : PlaceOk (i + 1) (.wi (below + more) e) at_ (below + more) := by
  obtain ⟨a1, a2, a3, a4, a5, a6, a7, a8⟩ := h
  refine ⟨fun g r => ⟨⟨⟨rfl, by omega, by omega⟩, below, by omega, (a1 g r).1⟩, (a1 g r).2⟩, ⟨⟨by omega, by omega⟩, a2⟩, by simp only [ht]; omega, by simp only [sz]; omega, by omega, by omega, by omega, by omega⟩
theorem place_mi (h : PlaceOk i e at_ below) (hi : i < 2) : PlaceOk (i + 1) (.mi below e) (below - 1 - at_) below := by
  obtain ⟨a1, a2, a3, a4, a5, a6, a7, a8⟩ := h
  refine ⟨fun g r => ⟨⟨⟨rfl, by omega, by omega⟩, (a1 g r).1⟩, by show below - 1 - vl e r = _; rw [(a1 g r).2]⟩, a2, by simp only [ht]; omega, by simp only [sz]; omega, by omega, by omega, by omega, by omega⟩
theorem rkv_b {w : Str} {a b : Int} (hw : wordOk w) : 0 ≤ rkv w a b ∧ rkv w a b < L12 := rkv_in hw
theorem w_plus : wordOk "plus" := .inl rfl
theorem w_minus : wordOk "minus" := .inr (.inl rfl)
theorem w_times : wordOk "times" := .inr (.inr (.inl rfl))
theorem upG_e {g : Gm} {κ : Kd} : upG g "x" κ "e" = g "e" := if_neg (by decide)
theorem upG_s {g : Gm} {x : Str} {κ : Kd} : upG g x κ x = some κ := if_pos rfl
theorem upR_e {r : Str → Int} {v : Int} : upR r "x" v "e" = r "e" := if_neg (by decide)
theorem upR_s {r : Str → Int} {x : Str} {v : Int} : upR r x v x = v := if_pos rfl
theorem ty_e {g : Gm} (h : g "e" = some .whole) : Ty xe g .whole := ⟨True.intro, h⟩
theorem ty_x {g : Gm} {n : Int} (h0 : 0 ≤ n ∧ n ≤ 99) : Ty xx (upG g "x" (.place n)) .whole := ⟨rfl, n, h0, upG_s⟩
theorem nok_e : nameOk "e" := .inl rfl
theorem nok_x : nameOk "x" := .inr rfl
theorem wf_xe : wf xe := nok_e
theorem wf_xx : wf xx := nok_x
theorem deed_rn {w : Str} {n : Int} (hw : wordOk w) (h : 0 ≤ n ∧ n < L12) : DeedOk now (.rk w xe (.num n)) (rkv w now n) :=
  ⟨fun g r h1 h2 => ⟨⟨rfl, hw, ty_e h1, rfl, h.1, h.2⟩, by show rkv w (r "e") n = _; rw [h2]⟩, ⟨hw, wf_xe, h⟩, Nat.le_of_ble_eq_true rfl, Nat.le_of_ble_eq_true rfl, (rkv_b hw).1, (rkv_b hw).2⟩
theorem deed_nr {w : Str} {n : Int} (hw : wordOk w) (h : 0 ≤ n ∧ n < L12) : DeedOk now (.rk w (.num n) xe) (rkv w n now) :=
  ⟨fun g r h1 h2 => ⟨⟨rfl, hw, ⟨rfl, h.1, h.2⟩, ty_e h1⟩, by show rkv w n (r "e") = _; rw [h2]⟩, ⟨hw, h, wf_xe⟩, Nat.le_of_ble_eq_true rfl, Nat.le_of_ble_eq_true rfl, (rkv_b hw).1, (rkv_b hw).2⟩
theorem deed_if {n : Int} (h : 0 ≤ n ∧ n < L12) : DeedOk now (.ite xe (.num n) (.rk "plus" xe (.num n))) (if now = 0 then rkv "plus" now n else n) :=
  ⟨fun g r h1 h2 => ⟨⟨True.intro, ty_e h1, ⟨rfl, h.1, h.2⟩, ⟨rfl, w_plus, ty_e h1, rfl, h.1, h.2⟩⟩, by show (if r "e" = 0 then rkv "plus" (r "e") n else n) = _; rw [h2]⟩, ⟨wf_xe, h, w_plus, wf_xe, h⟩, Nat.le_of_ble_eq_true rfl, Nat.le_of_ble_eq_true rfl, by split; exact (rkv_b w_plus).1; exact h.1, by split; exact (rkv_b w_plus).2; exact h.2⟩
theorem deed_pl {w : Str} (hw : wordOk w) (h : PlaceOk i e at_ below) : DeedOk now (.rk w xe (.va e)) (rkv w now at_) := by
  obtain ⟨a1, a2, a3, a4, a5, a6, a7, a8⟩ := h
  exact ⟨fun g r h1 h2 => ⟨⟨rfl, hw, ty_e h1, rfl, below, (a1 g r).1⟩, by show rkv w (r "e") (vl e r) = _; rw [h2, (a1 g r).2]⟩, ⟨hw, wf_xe, a2⟩, by simp only [ht]; omega, by simp only [sz]; omega, (rkv_b hw).1, (rkv_b hw).2⟩
theorem deed_ee {w : Str} (hw : wordOk w) : DeedOk now (.rk w xe xe) (rkv w now now) :=
  ⟨fun g r h1 h2 => ⟨⟨rfl, hw, ty_e h1, ty_e h1⟩, by show rkv w (r "e") (r "e") = _; rw [h2]⟩, ⟨hw, wf_xe, wf_xe⟩, Nat.le_of_ble_eq_true rfl, Nat.le_of_ble_eq_true rfl, (rkv_b hw).1, (rkv_b hw).2⟩
theorem deed_let {n : Int} (h : 0 ≤ n ∧ n < L12) : DeedOk now (.lt "e" (.rk "plus" xe (.num n)) (.rk "times" xe xe)) (rkv "times" (rkv "plus" now n) (rkv "plus" now n)) :=
  ⟨fun g r h1 h2 => ⟨⟨True.intro, .whole, ⟨rfl, w_plus, ty_e h1, rfl, h.1, h.2⟩, rfl, w_times, ty_e upG_s, ty_e upG_s⟩, by show rkv "times" (upR r "e" (rkv "plus" (r "e") n) "e") (upR r "e" (rkv "plus" (r "e") n) "e") = _; rw [upR_s, h2]⟩, ⟨nok_e, ⟨w_plus, wf_xe, h⟩, w_times, wf_xe, wf_xe⟩, Nat.le_of_ble_eq_true rfl, Nat.le_of_ble_eq_true rfl, (rkv_b w_times).1, (rkv_b w_times).2⟩
theorem deed_len {n : Int} (h : 0 ≤ n ∧ n ≤ 99) : DeedOk now (.rk "minus" (.len n) xe) (rkv "minus" n now) :=
  ⟨fun g r h1 h2 => ⟨⟨rfl, w_minus, ⟨rfl, h⟩, ty_e h1⟩, by show rkv "minus" n (r "e") = _; rw [h2]⟩, ⟨w_minus, h, wf_xe⟩, Nat.le_of_ble_eq_true rfl, Nat.le_of_ble_eq_true rfl, (rkv_b w_minus).1, (rkv_b w_minus).2⟩
theorem deed_fk {cut : Int} (h : PlaceOk i e at_ below) (h0 : 0 ≤ cut) (h1 : cut ≤ below) : DeedOk now (.fk cut e "x" (.rk "plus" xe xx) (.rk "minus" xe xx)) (if at_ < cut then rkv "plus" now at_ else rkv "minus" now (at_ - cut)) := by
  obtain ⟨a1, a2, a3, a4, a5, a6, a7, a8⟩ := h
  refine ⟨fun g r g1 g2 => ⟨⟨True.intro, h0, below, h1, by omega, (a1 g r).1, ⟨rfl, w_plus, ty_e (upG_e.trans g1), ty_x ⟨h0, by omega⟩⟩, ⟨rfl, w_minus, ty_e (upG_e.trans g1), ty_x ⟨by omega, by omega⟩⟩⟩, ?_⟩, ⟨⟨⟨h0, by omega⟩, nok_x⟩, a2, ⟨w_plus, wf_xe, wf_xx⟩, w_minus, wf_xe, wf_xx⟩, by simp only [ht]; omega, by simp only [sz]; omega, by split; exact (rkv_b w_plus).1; exact (rkv_b w_minus).1, by split; exact (rkv_b w_plus).2; exact (rkv_b w_minus).2⟩
  show (if vl e r < cut then rkv "plus" (upR r "x" (vl e r) "e") (upR r "x" (vl e r) "x") else rkv "minus" (upR r "x" (vl e r - cut) "e") (upR r "x" (vl e r - cut) "x")) = _
  rw [(a1 g r).2, upR_e, upR_e, upR_s, upR_s, g2]
theorem deed_w1 {near cut n : Int} (hn : 0 ≤ near ∧ near < L12) (hnow : 0 ≤ now ∧ now < L12) (hk : near ≤ now) (h0 : 0 ≤ cut ∧ cut ≤ 99) (h1 : 0 ≤ n ∧ n ≤ 99) : DeedOk now (.wh (.rk "minus" xe (.num near)) cut "e" (.va xe) (.rk "plus" xe (.len n))) (if now - near < cut then now - near else rkv "plus" now n) := by
  have em : rkv "minus" now near = now - near := by rw [rkv_minus]; exact Int.emod_eq_of_lt (by omega) (by have := hnow.2; have : L12 = 1000000000000 := rfl; omega)
  refine ⟨fun g r g1 g2 => ⟨⟨True.intro, h0, ⟨rfl, w_minus, ty_e g1, rfl, hn.1, hn.2⟩, ⟨rfl, cut, h0, upG_s⟩, ⟨rfl, w_plus, ty_e g1, rfl, h1⟩⟩, ?_⟩, ⟨⟨h0, nok_e⟩, ⟨w_minus, wf_xe, hn⟩, nok_e, w_plus, wf_xe, h1⟩, Nat.le_of_ble_eq_true rfl, Nat.le_of_ble_eq_true rfl, ?_, ?_⟩
  · show (if rkv "minus" (r "e") near < cut then upR r "e" (rkv "minus" (r "e") near) "e" else rkv "plus" (r "e") n) = _
    rw [upR_s, g2, em]
  · split
    · omega
    · exact (rkv_b w_plus).1
  · split
    · have := h0.2; show now - near < 1000000000000; omega
    · exact (rkv_b w_plus).2
theorem deed_w2 {near cut n : Int} (hn : 0 ≤ near ∧ near < L12) (hnow : 0 ≤ now ∧ now < L12) (hk : near ≤ now) (h0 : 0 ≤ cut ∧ cut ≤ 99) (h1 : 0 ≤ n ∧ n ≤ 99) : DeedOk now (.wh (.rk "minus" xe (.num near)) cut "x" (.rk "times" xe xx) (.len n)) (if now - near < cut then rkv "times" now (now - near) else n) := by
  have em : rkv "minus" now near = now - near := by rw [rkv_minus]; exact Int.emod_eq_of_lt (by omega) (by have := hnow.2; have : L12 = 1000000000000 := rfl; omega)
  refine ⟨fun g r g1 g2 => ⟨⟨True.intro, h0, ⟨rfl, w_minus, ty_e g1, rfl, hn.1, hn.2⟩, ⟨rfl, w_times, ty_e (upG_e.trans g1), ty_x h0⟩, ⟨rfl, h1⟩⟩, ?_⟩, ⟨⟨h0, nok_x⟩, ⟨w_minus, wf_xe, hn⟩, ⟨w_times, wf_xe, wf_xx⟩, h1⟩, Nat.le_of_ble_eq_true rfl, Nat.le_of_ble_eq_true rfl, ?_, ?_⟩
  · show (if rkv "minus" (r "e") near < cut then rkv "times" (upR r "x" (rkv "minus" (r "e") near) "e") (upR r "x" (rkv "minus" (r "e") near) "x") else n) = _
    rw [upR_s, upR_e, g2, em]
  · split
    · exact (rkv_b w_times).1
    · exact h1.1
  · split
    · exact (rkv_b w_times).2
    · have := h1.2; show n < 1000000000000; omega
theorem told_0 (h : 0 ≤ now ∧ now < L12) : ToldOk 0 (.num now) now := ⟨fun g r => ⟨⟨rfl, h.1, h.2⟩, rfl⟩, h, Nat.le_refl _, Nat.le_refl _, h.1, h.2, by omega⟩
theorem told_s {d : Ex} (h : ToldOk i e now) (hi : i < 3) (hd : DeedOk now d due) : ToldOk (i + 1) (.lt "e" e d) due := by
  obtain ⟨a1, a2, a3, a4, a5, a6, a7⟩ := h
  obtain ⟨b1, b2, b3, b4, b5, b6⟩ := hd
  refine ⟨fun g r => ?_, ⟨nok_e, a2, b2⟩, ?_, by simp only [sz]; omega, b5, b6, by omega⟩
  · obtain ⟨c1, c2⟩ := a1 g r
    obtain ⟨d1, d2⟩ := b1 (upG g "e" .whole) (upR r "e" (vl e r)) upG_s (by rw [upR_s]; exact c2)
    exact ⟨⟨True.intro, .whole, c1, d1⟩, d2⟩
  · rw [if_neg (by omega)]
    simp only [ht]
    by_cases h0 : i = 0
    · rw [if_pos h0] at a3; omega
    · rw [if_neg h0] at a3; omega
theorem told_ask (h : ToldOk 3 e now) : askOk e ∧ vl e r0 = now := by
  obtain ⟨a1, a2, a3, a4, a5, a6, a7⟩ := h
  exact ⟨⟨⟨a2, a3, a4⟩, (a1 _ r0).1⟩, (a1 g0 r0).2⟩
end
end Sx
namespace Sx
open PySem PySem.Spec PyProof.Rows L2

def Dr (M : Mem) (f : Addr) (ns : List Int) : Prop := M f = some (.lst (intL ns)) ∧ nneg ns ∧ ns.length ≤ 100
def Kept (M M' : Mem) (f : Addr) : Prop := ∀ a t, a ≠ f → M a = some t → M' a = some t
theorem cdiv_of {i j : Int} (h1 : 0 < j) (h2 : j.natAbs.log2 < 9000) : CDivW i j := ⟨h1, h2⟩
theorem cpow_of {i j : Int} (h1 : 0 ≤ j) (h2 : j ≤ 1000000) (h3 : i.natAbs < 2 ^ 64) : CPow i j := ⟨h1, h2, h3⟩
theorem Kept.refl {M : Mem} {f : Addr} : Kept M M f := fun _ _ _ h => h
theorem Kept.trans {M M1 M2 : Mem} {f : Addr} (h : Kept M M1 f) (h2 : Kept M1 M2 f) : Kept M M2 f := fun a t ha q => h2 a t ha (h a t ha q)
theorem Kept.upd {M : Mem} {f : Addr} {t : TO} : Kept M (updM M f t) f := fun a u ha q => by rw [updM_ne ha]; exact q
theorem Kept.put {M M1 : Mem} {f a : Addr} {t : TO} (h : Kept M M1 f) (ha : M1 a = none) : Kept M (updM M1 a t) f := fun b u hb q => by
  have q2 := h b u hb q
  rw [updM_ne (neM q2 ha)]
  exact q2
theorem mul_of_now {now : Int} (h : 0 ≤ now ∧ now < L12) : mulOk now := by
  have h2 : now < 1000000000000 := h.2
  exact ⟨by omega, by omega⟩
theorem word_in {y : Sy} (h : y ∈ [Sy.d (.str "plus"), .d (.str "minus"), .d (.str "times"), .d (.str "less"), .d (.str "same")]) : ∃ w1, wordOk w1 ∧ y = .d (.str w1) := by
  simp only [List.mem_cons, List.not_mem_nil, or_false] at h
  rcases h with rfl | rfl | rfl | rfl | rfl
  · exact ⟨_, .inl rfl, rfl⟩
  · exact ⟨_, .inr (.inl rfl), rfl⟩
  · exact ⟨_, .inr (.inr (.inl rfl)), rfl⟩
  · exact ⟨_, .inr (.inr (.inr (.inl rfl))), rfl⟩
  · exact ⟨_, .inr (.inr (.inr (.inr rfl))), rfl⟩
theorem num_in {y : Sy} {a b c : Int} (h : y ∈ [Sy.d (.int a), .d (.int b), .d (.int c)]) (ha : 0 ≤ a ∧ a < L12) (hb : 0 ≤ b ∧ b < L12) (hc : 0 ≤ c ∧ c < L12) : ∃ n, (0 ≤ n ∧ n < L12) ∧ y = .d (.int n) := by
  simp only [List.mem_cons, List.not_mem_nil, or_false] at h
  rcases h with rfl | rfl | rfl
  · exact ⟨_, ha, rfl⟩
  · exact ⟨_, hb, rfl⟩
  · exact ⟨_, hc, rfl⟩
end Sx
namespace Sx
open PySem PySem.Spec PyProof.Rows L2

section
variable {X : Cx} {G : Ga} {M : Mem} {e o b : Expr} {rest : List Stmt} {pos : Pos} {D : Tends}
theorem ex_lputS {pos' : Pos} (h : EvK X G M e fun z M1 => EvK X G M1 o fun y M2 => EvK X G M2 b fun q M3 => Stop (∃ (f : Addr) (ys : List Sy) (l : Nat), y = .v (.ref f) ∧ q = .d (.int (l : Nat)) ∧ M3 f = some (.lst ys) ∧ l < ys.length ∧
      ExK X G (updM M3 f (.lst (ys.set l z))) rest D)) (hs : swapsWithSole [.Subscript o b pos'] e pos.line X.env = pure false) (hw : swappedStores [.Subscript o b pos'] e X.env = pure none)
    (ha : ∀ v, assign (.Subscript o b pos') X.env v = (do
      let ov ← holding [v] (eval o X.env)
      let iv ← holding [v, ov] (eval b X.env)
      standAt pos'
      holding [v, ov, iv] (setItem ov iv v)
      release [v, ov, iv] [])) : ExK X G M (.Assign [.Subscript o b pos'] e pos :: rest) D := ex_lput (ev_mono h fun _ _ h => ev_mono h fun _ _ h => ev_mono h fun _ _ h => h.go) hs hw ha
end
theorem rg_3 {n : Int} (h0 : 0 ≤ n) (h1 : n ≤ 1000) : RgC 0 n 3 ((n + 2) / 3).toNat := by
  have e : Builtin.Range.rangeSize 0 n 3 = (n + 2) / 3 := by
    rw [rangeSize_pos (by decide) h0]
    congr 1
    omega
  refine ⟨by decide, by decide, ?_, by rw [e]; omega⟩
  unfold Builtin.Range.small
  rw [e]
  simp only [Builtin.Range.rangeFitsLong, Bool.and_eq_true, Bool.or_eq_true, decide_eq_true_eq, beq_iff_eq, show (3 : Int) > 0 by decide, if_true]
  repeat' split
  all_goals omega
theorem rg_12 {n : Int} (h0 : 0 ≤ n) (h1 : n ≤ 1000) : RgC 0 n 12 ((n + 11) / 12).toNat := by
  have e : Builtin.Range.rangeSize 0 n 12 = (n + 11) / 12 := by
    rw [rangeSize_pos (by decide) h0]
    congr 1
    omega
  refine ⟨by decide, by decide, ?_, by rw [e]; omega⟩
  unfold Builtin.Range.small
  rw [e]
  simp only [Builtin.Range.rangeFitsLong, Bool.and_eq_true, Bool.or_eq_true, decide_eq_true_eq, beq_iff_eq, show (12 : Int) > 0 by decide, if_true]
  repeat' split
  all_goals omega
theorem cutY_len {A : Type} {xs : List A} {lo hi : Option Int} : (cutY xs lo hi).length ≤ xs.length := by
  unfold cutY
  rw [List.length_take, List.length_drop]
  omega
theorem cutY_mem {A : Type} {xs : List A} {lo hi : Option Int} {x : A} (h : x ∈ cutY xs lo hi) : x ∈ xs := List.mem_of_mem_drop (List.mem_of_mem_take h)
theorem cutY_12 {A : Type} {xs : List A} {b : Nat} : (cutY xs (some (b : Nat)) (some ((b + 12 : Nat) : Int))).length ≤ 12 := by
  unfold cutY
  rw [HT.sIx_nat, HT.sIx_nat, List.length_take, List.length_drop]
  omega
theorem three {ns : List Int} (h : 3 ≤ ns.length) : ∃ a b c, cutY ns none (some 3) = [a, b, c] := by
  match ns, h with
  | a :: b :: c :: r, _ =>
    refine ⟨a, b, c, ?_⟩
    unfold cutY
    have e1 : HT.sIx (a :: b :: c :: r).length 0 none = 0 := rfl
    have e2 : HT.sIx (a :: b :: c :: r).length (a :: b :: c :: r).length (some 3) = 3 := by
      have q := HT.sIx_nat (a :: b :: c :: r).length (a :: b :: c :: r).length 3
      refine Eq.trans q ?_
      simp only [List.length_cons]
      omega
    rw [e1, e2]
    rfl
theorem cells {zs : List Int} {lo hi : Option Int} : ∃ a b c, cutY ((cutY (zs.map PyData.int) lo hi).map Sy.d ++ (List.replicate (3 : Int).toNat [Sy.d (.int 0)]).flatten) none (some 3) = intL [a, b, c] := by
  obtain ⟨a, b, c, h⟩ := three (ns := cutY zs lo hi ++ [0, 0, 0]) (by rw [List.length_append]; simp)
  refine ⟨a, b, c, ?_⟩
  have e : (cutY (zs.map PyData.int) lo hi).map Sy.d ++ (List.replicate (3 : Int).toNat [Sy.d (.int 0)]).flatten = intL (cutY zs lo hi ++ [0, 0, 0]) := by
    rw [cutY_map]
    unfold intL
    rw [List.map_append, List.map_append]
    rfl
  rw [e]
  unfold intL
  rw [cutY_map, cutY_map, h]
def half : Sy → Sy
  | .d (.int v) => .d (.int (v / 2))
  | y => y
def askP (p : Ex × Int) : Prop := askOk p.1 ∧ vl p.1 r0 = p.2
abbrev asksL (ps : List (Ex × Int)) : List Sy := ((ps.map Prod.fst).map rowE).map Sy.d
abbrev duesL (ps : List (Ex × Int)) : List Sy := intL (ps.map Prod.snd)
theorem asksL_app {ps : List (Ex × Int)} {e : Ex} {d : Int} : asksL ps ++ [.d (rowE e)] = asksL (ps ++ [(e, d)]) := by simp [asksL]
theorem duesL_app {ps : List (Ex × Int)} {e : Ex} {d : Int} : duesL ps ++ [.d (.int d)] = duesL (ps ++ [(e, d)]) := by simp [duesL]
theorem asksL_len {ps : List (Ex × Int)} : (asksL ps).length = ps.length := by simp [asksL]
theorem duesL_len {ps : List (Ex × Int)} : (duesL ps).length = ps.length := by simp [duesL]
theorem asksL_cut {ps : List (Ex × Int)} {lo hi : Option Int} : cutY (asksL ps) lo hi = asksL (cutY ps lo hi) := by
  unfold asksL
  rw [cutY_map, cutY_map, cutY_map]
theorem duesL_cut {ps : List (Ex × Int)} {lo hi : Option Int} : cutY (duesL ps) lo hi = duesL (cutY ps lo hi) := by
  unfold duesL intL
  rw [cutY_map, cutY_map, cutY_map]
theorem eqv_pair {d : Int} : PyData.eqv (.tuple [.int d, .int 0]) (.tuple [.int d, .int 0]) = true := by simp [PyData.eqv, PyData.eqvAll]
end Sx
namespace Sx
open PySem PySem.Spec PyProof.Rows L2
/-! ### the steps -/
local macro_rules | `(tactic| walk_at "sxd") => `(tactic| first
  | exact decide_eq_true (by omega)
  | exact decide_eq_false (by omega)
  | with_unfolding_all rfl
  | assumption)
local macro_rules | `(tactic| walk_at "gl") => `(tactic| exact gl_of (by assumption) (by decide +kernel))
local macro_rules | `(tactic| walk_at "sxEv") => `(tactic| first
  | with_reducible refine ev_name (by assumption) (by with_unfolding_all rfl) ?_
  | with_reducible refine ev_str ?_
  | with_reducible refine ev_int ?_
  | with_reducible refine ev_sees (by assumption) (by with_unfolding_all rfl) ?_
  | ((with_reducible refine ev_dgetTS (by assumption) ?_ ?_); rotate_left; exact fun _ _ => rfl)
  | ((with_reducible refine ev_fldS (by assumption) ?_ ?_); rotate_left; rfl)
  | ((with_reducible refine ev_sub ?_ ?_); rotate_left; exact fun _ _ => rfl)
  | ((with_reducible refine ev_call (by assumption) (by assumption) (by omega) ?_ ?_ ?_ ?_); walk_at "gl"; rotate_left; rfl; rfl)
  | ((with_reducible refine ev_append ?_ ?_ ?_ ?_ ?_ ?_); rotate_left; rfl; rfl; rfl; rfl; rfl)
  | ((with_reducible refine ev_extend ?_ ?_ ?_ ?_ ?_ ?_); rotate_left; rfl; rfl; rfl; rfl; rfl)
  | ((with_reducible refine ev_methS (by assumption) (by assumption) (by omega) ?_ ?_ ?_ ?_); rotate_left; rfl; rfl; rfl)
  | ((with_reducible refine ev_insertK ?_ (by decide) ?_ ?_ ?_ ?_ ?_ ?_); rotate_left; rfl; rfl; rfl; rfl; rfl; rfl)
  | ((with_reducible refine ev_popK ?_ ?_ ?_); rotate_left; rfl; rfl)
  | ((with_reducible refine ev_cmp ?_ ?_); rotate_left; (first | exact nomark _ | rfl | with_unfolding_all rfl))
  | ((with_reducible refine ev_chain ?_ ?_); rotate_left; with_unfolding_all rfl)
  | with_reducible refine ev_and1 ?_
  | with_reducible refine ev_and ?_
  | with_reducible refine ev_or ?_
  | with_reducible refine ev_not ?_
  | with_reducible refine ev_bl ?_
  | with_reducible refine ev_non ?_
  | with_reducible refine ev_bin ?_
  | with_reducible refine ev_tup0 ?_
  | with_reducible refine ev_tup ?_
  | with_reducible refine ev_dnew ?_
  | with_reducible refine ev_slice ?_
  | with_reducible refine ev_lst ?_
  | ((with_reducible refine ev_callL (by assumption) (by assumption) (by with_unfolding_all rfl) (by assumption) (by omega) ?_ ?_ ?_); rotate_left; rfl; rfl)
  | ((with_reducible refine ev_sortedItems0 (by assumption) (Bfn.hm (id := "sorted") (by assumption)) ?_ ?_ ?_ ?_ ?_ ?_); walk_at "gl"; rotate_left; rfl; rfl; rfl; rfl)
  | ((with_reducible refine ev_cB (by assumption) (by assumption) ?_ ?_ ?_ ?_); walk_at "gl"; rotate_left; rfl; rfl)
  | ((with_reducible refine ev_cT (by assumption) (by assumption) ?_ ?_ ?_ ?_); walk_at "gl"; rotate_left; rfl; rfl)
  | ((with_reducible refine ev_glob (by assumption) (by assumption) ?_ ?_); walk_at "gl")
  | ((with_reducible refine ev_tyB (by assumption) (by assumption) ?_ ?_); walk_at "gl"))
local macro_rules | `(tactic| walk_at "sxOp") => `(tactic| first
  | with_reducible refine ok_eqS ?_
  | with_reducible refine ok_neS ?_
  | with_reducible refine ok_eqI ?_
  | with_reducible refine ok_neI ?_
  | with_reducible refine ok_lt ?_
  | with_reducible refine ok_le ?_
  | with_reducible refine ok_gt ?_
  | with_reducible refine ok_ge ?_
  | with_reducible refine ok_isN ?_
  | with_reducible refine ok_notN ?_
  | with_reducible refine ok_notNdk ?_
  | with_reducible refine ok_isNsl ?_
  | with_reducible refine ok_add ?_
  | with_reducible refine ok_sub ?_
  | with_reducible refine ok_mod (by first | assumption | decide) ?_
  | with_reducible refine ok_mul (by assumption) ?_
  | with_reducible refine ok_notInKd (by assumption) (by assumption) (by assumption) ?_
  | with_reducible refine ok_inSign ?_
  | with_reducible refine ok_inTs ?_
  | with_reducible refine ok_cat00 ?_
  | with_reducible refine ok_cat (by exact Nat.le_of_ble_eq_true (by with_unfolding_all rfl)) ?_)
local macro_rules | `(tactic| walk_at "sxTe") => `(tactic| first
  | ((with_reducible refine te_cmp ?_ ?_); rotate_left; (first | exact nomark _ | rfl | with_unfolding_all rfl))
  | with_reducible refine te_not ?_
  | ((with_reducible refine te_chain ?_ ?_); rotate_left; with_unfolding_all rfl)
  | with_reducible refine te_bool ?_
  | ((with_reducible refine te_val ?_ ?_); rotate_left; (intro _; rfl)))
local macro_rules | `(tactic| walk_at "sxTw") => `(tactic| first
  | with_reducible refine tw_and1 ?_
  | with_reducible refine tw_or1 ?_
  | with_reducible refine tw_and ?_
  | with_reducible refine tw_or ?_)
local macro_rules | `(tactic| walk_at "sxIt") => `(tactic| first
  | with_reducible refine it_kdS (by assumption) (by assumption) ?_
  | with_reducible refine it_kdR (by assumption) (by assumption) ?_
  | with_reducible refine it_tupI (i := 0) (by with_unfolding_all rfl) (by with_unfolding_all rfl) ?_
  | with_reducible refine it_tupI (i := 1) (by with_unfolding_all rfl) (by with_unfolding_all rfl) ?_
  | with_reducible refine it_tupI (i := 2) (by with_unfolding_all rfl) (by with_unfolding_all rfl) ?_
  | with_reducible refine it_tupI (i := 3) (by with_unfolding_all rfl) (by with_unfolding_all rfl) ?_
  | with_reducible refine it_tupI (i := 4) (by with_unfolding_all rfl) (by with_unfolding_all rfl) ?_
  | with_reducible refine it_tupI (i := 5) (by with_unfolding_all rfl) (by with_unfolding_all rfl) ?_)
local macro_rules | `(tactic| walk_at "sxCa") => `(tactic| first
  | with_reducible refine ca_lenT (by exact Nat.le_of_ble_eq_true (by with_unfolding_all rfl)) ?_
  | with_reducible refine ca_lenS (by decide) ?_
  | with_reducible refine ca_lenL ?_
  | with_reducible refine ca_lenM (by first | exact updM_same | assumption) ?_
  | with_reducible refine ca_isI (bb := true) (by with_unfolding_all rfl) ?_
  | with_reducible refine ca_isI (bb := false) (by with_unfolding_all rfl) ?_
  | with_reducible refine ca_isS (bb := true) (by with_unfolding_all rfl) ?_
  | with_reducible refine ca_isS (bb := false) (by with_unfolding_all rfl) ?_
  | with_reducible refine ca_isT (bb := true) (by with_unfolding_all rfl) ?_
  | with_reducible refine ca_isT (bb := false) (by with_unfolding_all rfl) ?_
  | with_reducible refine ca_isiL (bb := true) (by with_unfolding_all rfl) ?_
  | with_reducible refine ca_isiL (bb := false) (by with_unfolding_all rfl) ?_
  | with_reducible refine ca_sum0 (by assumption) ?_
  | with_reducible refine ca_tup0 ?_
  | with_reducible refine ca_sorted0 ?_
  | with_reducible refine ca_listD0 (by assumption) ?_
  | with_reducible refine ca_listL ?_
  | with_reducible refine ca_intB ?_
  | with_reducible refine ca_all0 (by assumption) ?_
  | with_reducible refine ca_dictF ?_)
local macro_rules | `(tactic| walk_at "sxEx") => `(tactic| first
  | ((with_reducible refine ex_dputTS (by assumption) ?_ ?_); rotate_left; rfl)
  | ((with_reducible refine ex_dputS (by assumption) ?_ ?_); rotate_left; rfl)
  | with_reducible refine ex_fldaddS (by assumption) ?_
  | ((with_reducible refine ex_dputTS (by assumption) ?_ ?_); rotate_left; rfl)
  | ((with_reducible refine ex_fldS (by assumption) ?_ ?_); rotate_left; rfl)
  | ((with_reducible refine ex_setLN (Cxi.nd (by assumption)) (by assumption) ?_ ?_); rotate_left; rfl)
  | ((with_reducible refine ex_setN (Cxi.nd (by assumption)) (by assumption) ?_ ?_); rotate_left; rfl)
  | with_reducible refine ex_if ?_
  | ((with_reducible refine ex_unpackN (by assumption) (.cons (by assumption) (.cons (by assumption) .nil)) ?_ ?_ ?_); rotate_left; rfl; rfl)
  | ((with_reducible refine ex_unpackN (by assumption) (.cons (by assumption) (.cons (by assumption) (.cons (by assumption) .nil))) ?_ ?_ ?_); rotate_left; rfl; rfl)
  | ((with_reducible refine ex_unpackN (by assumption) (.cons (by assumption) (.cons (by assumption) (.cons (by assumption) (.cons (by assumption) .nil)))) ?_ ?_ ?_); rotate_left; rfl; rfl)
  | ((with_reducible refine ex_unpackN (by assumption) (.cons (by assumption) (.cons (by assumption) (.cons (by assumption) (.cons (by assumption) (.cons (by assumption) (.cons (by assumption) .nil)))))) ?_ ?_ ?_); rotate_left; rfl; rfl)
  | ((with_reducible refine ex_exprN ?_ ?_); rotate_left; rfl)
  | with_reducible refine ex_nil ?_
  | with_reducible refine ex_ret ?_
  | with_reducible refine ex_retN ?_
  | with_reducible refine ex_augaddN (Cxi.nd (by assumption)) (by assumption) (by with_unfolding_all rfl) ?_)
local macro_rules | `(tactic| walk_at "sxIf") => `(tactic| first
  | with_reducible refine ifT (by decide +kernel) ?_
  | with_reducible refine ifF (by decide +kernel) ?_
  | with_reducible refine ifT (by walk_at "sxd") ?_
  | with_reducible refine ifF (by walk_at "sxd") ?_)
local macro_rules | `(tactic| walk_at "sxEa") => `(tactic| first
  | ((with_reducible refine ea_cons ?_ ?_); rotate_left; rfl)
  | with_reducible refine ea_nil ?_)
local macro_rules | `(tactic| walk_at "sxEd") => `(tactic| first
  | ((with_reducible refine ed_cons ?_ ?_); rotate_left; rfl)
  | with_reducible refine ed_nil ?_)
local macro_rules | `(tactic| walk_at "sxNm") => `(tactic| first
  | with_reducible refine normK (by (first | (dsimp only [setAll, unT, List.set, List.map, startG, List.cons_append, List.nil_append, List.length_cons, List.length_nil, List.replicate, Nat.reduceAdd, Nat.reduceSub]; done) | exact rfl)) (by (first | (simp only [updM_updM, List.nil_append, List.cons_append]; done) | exact rfl)) ?_)
local macro_rules | `(tactic| walk_at "sxExi") => `(tactic| first
  | refine ⟨_, rfl, ?_⟩
  | refine ⟨_, _, rfl, ?_⟩
  | refine ⟨_, _, _, rfl, ?_⟩
  | refine ⟨_, _, _, _, rfl, ?_⟩
  | refine ⟨_, _, rfl, by (first | exact updM_same | assumption), ?_⟩
  | refine ⟨_, _, _, rfl, by (first | exact updM_same | assumption), ?_⟩
  | refine ⟨_, _, _, _, rfl, by (first | exact updM_same | assumption), ?_⟩
  | refine ⟨_, by (first | exact updM_same | assumption), ?_⟩)
local macro_rules | `(tactic| walk_at "sxAnd") => `(tactic| first
  | with_reducible refine And.intro (by exact Nat.le_of_ble_eq_true (by with_unfolding_all rfl)) (And.intro (by exact List.cons_ne_nil _ _) ?_)
  | refine ⟨rfl, ?_⟩
  | refine ⟨by (first | assumption | exact updM_same | omega | (simp only [List.length_append, List.length_cons, List.length_nil]; done) | (simp only [List.length_append, List.length_cons, List.length_nil]; omega) | exact Nat.le_of_ble_eq_true (by with_unfolding_all rfl) | with_unfolding_all rfl | decide), ?_⟩)
local macro_rules | `(tactic| walk_at "sx") => `(tactic| first
  | ((with_reducible refine asEv ?_); walk_at "sxEv")
  | ((with_reducible refine asOp ?_); walk_at "sxOp")
  | ((with_reducible refine asEx ?_); walk_at "sxEx")
  | ((with_reducible refine asEa ?_); walk_at "sxEa")
  | ((with_reducible refine asTe ?_); walk_at "sxTe")
  | ((with_reducible refine asIt ?_); walk_at "sxIt")
  | ((with_reducible refine asCa ?_); walk_at "sxCa")
  | ((with_reducible refine asTw ?_); walk_at "sxTw")
  | ((with_reducible refine asEd ?_); walk_at "sxEd")
  | ((with_reducible refine asIf ?_); walk_at "sxIf")
  | with_reducible refine kb_i ?_
  | with_reducible refine exd_i ?_
  | with_reducible refine ex_next ?_
  | with_reducible refine then_rt ?_
  | ((with_reducible refine nx_id ?_); dsimp only)
  | ((with_reducible refine rt_id ?_); dsimp only)
  | with_reducible refine forL_nil ?_
  | with_reducible refine forL_consN ?_
  | with_reducible refine forL_nilM ?_
  | with_reducible refine forL_consMN ?_
  | ((with_reducible refine asNm ?_); walk_at "sxNm")
  | with_reducible refine ep_none ?_
  | with_reducible refine ep_some ?_
  | with_reducible refine sk_tup1 ?_
  | ((with_reducible refine fresh_i ?_); intro _ _)
  | ((refine asExi ?_); walk_at "sxExi")
  | ((refine asAnd ?_); walk_at "sxAnd")
  | exact Fz.is (by assumption)
  | exact Fz.drop (by assumption) (Fz.is (by assumption)))

def T_is_whole : Tr := fun ys M k => ∃ i : Int, ys = [.d (.int i)] ∧ k (.d (.bool true)) M
theorem w_is_whole {P : Program} {w : World} {K : PySem.W.Frag} {mg : Str → Option Value} {base : Heap} (E : Fx w K mg) {X : Cx} (C : Cxi X P w K mg base 0) (A : At X ["thing"] (defScope (top 14)) true) {ys : List Sy} {M : Mem} {k : Sy → Mem → Prop} (hT : T_is_whole ys M k) :
    ExK X (startG ["thing"] ys) M (defBody (top 14)) { nx := fun _ M' => Fz k (.d .none) M', rt := Fz k } := by
  have s0 : Slot X 0 "thing" := A.slot (by decide +kernel)
  have b_isinstance := E.bf_isinstance
  have b_int := E.bt_int
  have b_bool := E.bt_bool
  obtain ⟨i, rfl, q⟩ := hT
  refine ex_open (by rfl) ?_
  repeat walk_at "sx"
theorem a_is_whole {P : Program} {w : World} {K : PySem.W.Frag} {mg : Str → Option Value} {base : Heap} (E : Fx w K mg) : Fat P w K mg base (He.ga K "is_whole") 1 T_is_whole := by
  obtain ⟨hm, fd, F⟩ := E.f_is_whole
  refine ⟨⟨fd, ["thing"], def_okF (N := ["thing"]) F ⟨rfl, rfl, rfl, by decide +kernel, rfl, by decide +kernel, by decide +kernel⟩ (fun ys M k h => ?_) (fun X C A ys M k h => w_is_whole E C A h), F.kp, F.bindsN fun _ _ _ _ _ _ us hl => match us, hl with | [_], _ => rfl⟩⟩
  unfold T_is_whole at h
  first | (obtain ⟨_, h, _⟩ := h; rw [h]; rfl) | (obtain ⟨_, _, h, _⟩ := h; rw [h]; rfl) | (obtain ⟨_, _, _, h, _⟩ := h; rw [h]; rfl) | (obtain ⟨_, _, _, _, h, _⟩ := h; rw [h]; rfl) | (obtain ⟨_, _, _, _, _, h, _⟩ := h; rw [h]; rfl) | (obtain ⟨_, _, _, _, _, _, h, _⟩ := h; rw [h]; rfl) | (obtain ⟨_, _, _, _, _, _, _, h, _⟩ := h; rw [h]; rfl) | (obtain ⟨_, _, _, _, _, _, _, _, h, _⟩ := h; rw [h]; rfl)
theorem d_is_whole {P : Program} {w : World} {K : PySem.W.Frag} {mg : Str → Option Value} {base : Heap} (E : Fx w K mg) : Dfn P w K mg base "is_whole" 1 T_is_whole := by
  obtain ⟨fd, ps, F, hk, hb⟩ := (a_is_whole (P := P) (base := base) E).ex
  exact ⟨⟨_, fd, ps, F, E.f_is_whole.1, hk, hb⟩, by decide⟩
def T_is_name : Tr := fun ys M k => ∃ x : Str, ys = [.d (.str x)] ∧ nameOk x ∧ k (.d (.bool true)) M
theorem w_is_name {P : Program} {w : World} {K : PySem.W.Frag} {mg : Str → Option Value} {base : Heap} (E : Fx w K mg) {X : Cx} (C : Cxi X P w K mg base 0) (A : At X ["thing", "letter"] (defScope (top 15)) true) {ys : List Sy} {M : Mem} {k : Sy → Mem → Prop} (hT : T_is_name ys M k) :
    ExK X (startG ["thing", "letter"] ys) M (defBody (top 15)) { nx := fun _ M' => Fz k (.d .none) M', rt := Fz k } := by
  have s0 : Slot X 0 "thing" := A.slot (by decide +kernel)
  have b_isinstance := E.bf_isinstance
  have b_str := E.bt_str
  have b_len := E.bf_len
  have g_MOST_LETTERS := E.g_MOST_LETTERS
  have b_all := E.bf_all
  have g_LETTERS := E.g_LETTERS
  obtain ⟨z, rfl, hz, q⟩ := hT
  rcases hz with rfl | rfl
  all_goals
    refine ex_open (by rfl) ?_
    repeat walk_at "sx"
    refine ev_lc (fun _ => .d (.bool true)) 1 C A (pk_str ?_)
    repeat walk_at "sx"
    refine ⟨⟨by decide, fun X' hX y hy M1 => ?_⟩, ?_⟩
    · have hy2 := List.mem_singleton.mp hy
      subst hy2
      have A' := hX.at A
      have C' := hX.cxi C
      have s1 : Slot X' 1 "letter" := A'.slot (by decide +kernel)
      repeat walk_at "sx"
      rfl
    · refine ea_nil ?_
      refine ca_all (bs := [true]) C ?_
      exact .is q
theorem a_is_name {P : Program} {w : World} {K : PySem.W.Frag} {mg : Str → Option Value} {base : Heap} (E : Fx w K mg) : Fat P w K mg base (He.ga K "is_name") 1 T_is_name := by
  obtain ⟨hm, fd, F⟩ := E.f_is_name
  refine ⟨⟨fd, ["thing"], def_okF (N := ["thing", "letter"]) F ⟨rfl, rfl, rfl, by decide +kernel, rfl, by decide +kernel, by decide +kernel⟩ (fun ys M k h => ?_) (fun X C A ys M k h => w_is_name E C A h), F.kp, F.bindsN fun _ _ _ _ _ _ us hl => match us, hl with | [_], _ => rfl⟩⟩
  unfold T_is_name at h
  first | (obtain ⟨_, h, _⟩ := h; rw [h]; rfl) | (obtain ⟨_, _, h, _⟩ := h; rw [h]; rfl) | (obtain ⟨_, _, _, h, _⟩ := h; rw [h]; rfl) | (obtain ⟨_, _, _, _, h, _⟩ := h; rw [h]; rfl) | (obtain ⟨_, _, _, _, _, h, _⟩ := h; rw [h]; rfl) | (obtain ⟨_, _, _, _, _, _, h, _⟩ := h; rw [h]; rfl) | (obtain ⟨_, _, _, _, _, _, _, h, _⟩ := h; rw [h]; rfl) | (obtain ⟨_, _, _, _, _, _, _, _, h, _⟩ := h; rw [h]; rfl)
theorem d_is_name {P : Program} {w : World} {K : PySem.W.Frag} {mg : Str → Option Value} {base : Heap} (E : Fx w K mg) : Dfn P w K mg base "is_name" 1 T_is_name := by
  obtain ⟨fd, ps, F, hk, hb⟩ := (a_is_name (P := P) (base := base) E).ex
  exact ⟨⟨_, fd, ps, F, E.f_is_name.1, hk, hb⟩, by decide⟩
def T_is_length : Tr := fun ys M k => ∃ n : Int, ys = [.d (lenD n)] ∧ 0 ≤ n ∧ k (.d (.bool true)) M
theorem w_is_length {P : Program} {w : World} {K : PySem.W.Frag} {mg : Str → Option Value} {base : Heap} (E : Fx w K mg) {X : Cx} (C : Cxi X P w K mg base 1) (A : At X ["thing", "part", "k"] (defScope (top 17)) true) {ys : List Sy} {M : Mem} {k : Sy → Mem → Prop} (hT : T_is_length ys M k) :
    ExK X (startG ["thing", "part", "k"] ys) M (defBody (top 17)) { nx := fun _ M' => Fz k (.d .none) M', rt := Fz k } := by
  have s0 : Slot X 0 "thing" := A.slot (by decide +kernel)
  have b_isinstance := E.bf_isinstance
  have b_tuple := E.bt_tuple
  have b_len := E.bf_len
  have d_is_whole := d_is_whole (P := P) (w := w) (K := K) (mg := mg) (base := base) E
  have b_all := E.bf_all
  have b_range := E.b_range
  obtain ⟨i, rfl, h0, q⟩ := hT
  refine ex_open (by rfl) ?_
  repeat walk_at "sx"
  refine ev_lc0 (own := [("part", 1)]) C A.hN A.hS ?_ (by decide +kernel) (by intro _; rfl)
  refine pk_tup ?_
  repeat walk_at "sx"
  repeat walk_at "sx"
  refine ev_lc0 (own := [("k", 2)]) C A.hN A.hS ?_ (by decide +kernel) (by intro _; rfl)
  refine pk_range2 C (A.gl (by decide +kernel)) b_range ?_
  repeat walk_at "sx"
theorem a_is_length {P : Program} {w : World} {K : PySem.W.Frag} {mg : Str → Option Value} {base : Heap} (E : Fx w K mg) : Fat P w K mg base (He.ga K "is_length") 2 T_is_length := by
  obtain ⟨hm, fd, F⟩ := E.f_is_length
  refine ⟨⟨fd, ["thing"], def_okF (N := ["thing", "part", "k"]) F ⟨rfl, rfl, rfl, by decide +kernel, rfl, by decide +kernel, by decide +kernel⟩ (fun ys M k h => ?_) (fun X C A ys M k h => w_is_length E C A h), F.kp, F.bindsN fun _ _ _ _ _ _ us hl => match us, hl with | [_], _ => rfl⟩⟩
  unfold T_is_length at h
  first | (obtain ⟨_, h, _⟩ := h; rw [h]; rfl) | (obtain ⟨_, _, h, _⟩ := h; rw [h]; rfl) | (obtain ⟨_, _, _, h, _⟩ := h; rw [h]; rfl) | (obtain ⟨_, _, _, _, h, _⟩ := h; rw [h]; rfl) | (obtain ⟨_, _, _, _, _, h, _⟩ := h; rw [h]; rfl) | (obtain ⟨_, _, _, _, _, _, h, _⟩ := h; rw [h]; rfl) | (obtain ⟨_, _, _, _, _, _, _, h, _⟩ := h; rw [h]; rfl) | (obtain ⟨_, _, _, _, _, _, _, _, h, _⟩ := h; rw [h]; rfl)
theorem d_is_length {P : Program} {w : World} {K : PySem.W.Frag} {mg : Str → Option Value} {base : Heap} (E : Fx w K mg) : Dfn P w K mg base "is_length" 2 T_is_length := by
  obtain ⟨fd, ps, F, hk, hb⟩ := (a_is_length (P := P) (base := base) E).ex
  exact ⟨⟨_, fd, ps, F, E.f_is_length.1, hk, hb⟩, by decide⟩
def T_of_number : Tr := fun ys M k => ∃ n : Int, ys = [.d (.int n)] ∧ k (.d (lenD n)) M
theorem w_of_number {P : Program} {w : World} {K : PySem.W.Frag} {mg : Str → Option Value} {base : Heap} (E : Fx w K mg) {X : Cx} (C : Cxi X P w K mg base 0) (A : At X ["n"] (defScope (top 18)) true) {ys : List Sy} {M : Mem} {k : Sy → Mem → Prop} (hT : T_of_number ys M k) :
    ExK X (startG ["n"] ys) M (defBody (top 18)) { nx := fun _ M' => Fz k (.d .none) M', rt := Fz k } := by
  have s0 : Slot X 0 "n" := A.slot (by decide +kernel)
  obtain ⟨n, rfl, q⟩ := hT
  refine ex_open (by rfl) ?_
  repeat walk_at "sx"
theorem a_of_number {P : Program} {w : World} {K : PySem.W.Frag} {mg : Str → Option Value} {base : Heap} (E : Fx w K mg) : Fat P w K mg base (He.ga K "of_number") 1 T_of_number := by
  obtain ⟨hm, fd, F⟩ := E.f_of_number
  refine ⟨⟨fd, ["n"], def_okF (N := ["n"]) F ⟨rfl, rfl, rfl, by decide +kernel, rfl, by decide +kernel, by decide +kernel⟩ (fun ys M k h => ?_) (fun X C A ys M k h => w_of_number E C A h), F.kp, F.bindsN fun _ _ _ _ _ _ us hl => match us, hl with | [_], _ => rfl⟩⟩
  unfold T_of_number at h
  first | (obtain ⟨_, h, _⟩ := h; rw [h]; rfl) | (obtain ⟨_, _, h, _⟩ := h; rw [h]; rfl) | (obtain ⟨_, _, _, h, _⟩ := h; rw [h]; rfl) | (obtain ⟨_, _, _, _, h, _⟩ := h; rw [h]; rfl) | (obtain ⟨_, _, _, _, _, h, _⟩ := h; rw [h]; rfl) | (obtain ⟨_, _, _, _, _, _, h, _⟩ := h; rw [h]; rfl) | (obtain ⟨_, _, _, _, _, _, _, h, _⟩ := h; rw [h]; rfl) | (obtain ⟨_, _, _, _, _, _, _, _, h, _⟩ := h; rw [h]; rfl)
theorem d_of_number {P : Program} {w : World} {K : PySem.W.Frag} {mg : Str → Option Value} {base : Heap} (E : Fx w K mg) : Dfn P w K mg base "of_number" 1 T_of_number := by
  obtain ⟨fd, ps, F, hk, hb⟩ := (a_of_number (P := P) (base := base) E).ex
  exact ⟨⟨_, fd, ps, F, E.f_of_number.1, hk, hb⟩, by decide⟩
def T_names_of : Tr := fun ys M k => ∃ n : Int, ys = [.d (lenD n)] ∧ k (.sl []) M
theorem w_names_of {P : Program} {w : World} {K : PySem.W.Frag} {mg : Str → Option Value} {base : Heap} (E : Fx w K mg) {X : Cx} (C : Cxi X P w K mg base 0) (A : At X ["a", "name", "times"] (defScope (top 25)) true) {ys : List Sy} {M : Mem} {k : Sy → Mem → Prop} (hT : T_names_of ys M k) :
    ExK X (startG ["a", "name", "times"] ys) M (defBody (top 25)) { nx := fun _ M' => Fz k (.d .none) M', rt := Fz k } := by
  have s0 : Slot X 0 "a" := A.slot (by decide +kernel)
  obtain ⟨n, rfl, q⟩ := hT
  refine ex_open (by rfl) ?_
  repeat walk_at "sx"
  refine ev_lc0 (own := [("name", 1), ("times", 2)]) C A.hN A.hS ?_ (by decide +kernel) (by intro _; rfl)
  refine pk_tup ?_
  repeat walk_at "sx"
theorem a_names_of {P : Program} {w : World} {K : PySem.W.Frag} {mg : Str → Option Value} {base : Heap} (E : Fx w K mg) : Fat P w K mg base (He.ga K "names_of") 1 T_names_of := by
  obtain ⟨hm, fd, F⟩ := E.f_names_of
  refine ⟨⟨fd, ["a"], def_okF (N := ["a", "name", "times"]) F ⟨rfl, rfl, rfl, by decide +kernel, rfl, by decide +kernel, by decide +kernel⟩ (fun ys M k h => ?_) (fun X C A ys M k h => w_names_of E C A h), F.kp, F.bindsN fun _ _ _ _ _ _ us hl => match us, hl with | [_], _ => rfl⟩⟩
  unfold T_names_of at h
  first | (obtain ⟨_, h, _⟩ := h; rw [h]; rfl) | (obtain ⟨_, _, h, _⟩ := h; rw [h]; rfl) | (obtain ⟨_, _, _, h, _⟩ := h; rw [h]; rfl) | (obtain ⟨_, _, _, _, h, _⟩ := h; rw [h]; rfl) | (obtain ⟨_, _, _, _, _, h, _⟩ := h; rw [h]; rfl) | (obtain ⟨_, _, _, _, _, _, h, _⟩ := h; rw [h]; rfl) | (obtain ⟨_, _, _, _, _, _, _, h, _⟩ := h; rw [h]; rfl) | (obtain ⟨_, _, _, _, _, _, _, _, h, _⟩ := h; rw [h]; rfl)
theorem d_names_of {P : Program} {w : World} {K : PySem.W.Frag} {mg : Str → Option Value} {base : Heap} (E : Fx w K mg) : Dfn P w K mg base "names_of" 1 T_names_of := by
  obtain ⟨fd, ps, F, hk, hb⟩ := (a_names_of (P := P) (base := base) E).ex
  exact ⟨⟨_, fd, ps, F, E.f_names_of.1, hk, hb⟩, by decide⟩
def T_noughts : Tr := fun ys M k => ∃ a b : Int, ys = [.d (lenD a), .d (lenD b)] ∧ k (.dk 0 fun _ => none) M
theorem w_noughts {P : Program} {w : World} {K : PySem.W.Frag} {mg : Str → Option Value} {base : Heap} (E : Fx w K mg) {X : Cx} (C : Cxi X P w K mg base 1) (A : At X ["a", "b", "found", "name"] (defScope (top 26)) true) {ys : List Sy} {M : Mem} {k : Sy → Mem → Prop} (hT : T_noughts ys M k) :
    ExK X (startG ["a", "b", "found", "name"] ys) M (defBody (top 26)) { nx := fun _ M' => Fz k (.d .none) M', rt := Fz k } := by
  have s0 : Slot X 0 "a" := A.slot (by decide +kernel)
  have s1 : Slot X 1 "b" := A.slot (by decide +kernel)
  have s2 : Slot X 2 "found" := A.slot (by decide +kernel)
  have s3 : Slot X 3 "name" := A.slot (by decide +kernel)
  have b_sorted := E.bf_sorted
  have d_names_of := d_names_of (P := P) (w := w) (K := K) (mg := mg) (base := base) E
  obtain ⟨a, b, rfl, q⟩ := hT
  refine ex_open (by rfl) ?_
  repeat walk_at "sx"
  refine ex_for C (bnd_name C.nd s3) (pk_sl ?_) (by intro _; rfl)
  repeat walk_at "sx"
  try refine ⟨none_in, ?_⟩
  repeat walk_at "sx"
theorem a_noughts {P : Program} {w : World} {K : PySem.W.Frag} {mg : Str → Option Value} {base : Heap} (E : Fx w K mg) : Fat P w K mg base (He.ga K "noughts") 2 T_noughts := by
  obtain ⟨hm, fd, F⟩ := E.f_noughts
  refine ⟨⟨fd, ["a", "b"], def_okF (N := ["a", "b", "found", "name"]) F ⟨rfl, rfl, rfl, by decide +kernel, rfl, by decide +kernel, by decide +kernel⟩ (fun ys M k h => ?_) (fun X C A ys M k h => w_noughts E C A h), F.kp, F.bindsN fun _ _ _ _ _ _ us hl => match us, hl with | [_, _], _ => rfl⟩⟩
  unfold T_noughts at h
  first | (obtain ⟨_, h, _⟩ := h; rw [h]; rfl) | (obtain ⟨_, _, h, _⟩ := h; rw [h]; rfl) | (obtain ⟨_, _, _, h, _⟩ := h; rw [h]; rfl) | (obtain ⟨_, _, _, _, h, _⟩ := h; rw [h]; rfl) | (obtain ⟨_, _, _, _, _, h, _⟩ := h; rw [h]; rfl) | (obtain ⟨_, _, _, _, _, _, h, _⟩ := h; rw [h]; rfl) | (obtain ⟨_, _, _, _, _, _, _, h, _⟩ := h; rw [h]; rfl) | (obtain ⟨_, _, _, _, _, _, _, _, h, _⟩ := h; rw [h]; rfl)
theorem d_noughts {P : Program} {w : World} {K : PySem.W.Frag} {mg : Str → Option Value} {base : Heap} (E : Fx w K mg) : Dfn P w K mg base "noughts" 2 T_noughts := by
  obtain ⟨fd, ps, F, hk, hb⟩ := (a_noughts (P := P) (base := base) E).ex
  exact ⟨⟨_, fd, ps, F, E.f_noughts.1, hk, hb⟩, by decide⟩
def T_worth : Tr := fun ys M k => ∃ (n : Int) (m : Key → Option PyData), ys = [.d (lenD n), .dk 0 m] ∧ k (.d (.int n)) M
theorem w_worth {P : Program} {w : World} {K : PySem.W.Frag} {mg : Str → Option Value} {base : Heap} (E : Fx w K mg) {X : Cx} (C : Cxi X P w K mg base 0) (A : At X ["a", "numbers", "name", "times"] (defScope (top 24)) true) {ys : List Sy} {M : Mem} {k : Sy → Mem → Prop} (hT : T_worth ys M k) :
    ExK X (startG ["a", "numbers", "name", "times"] ys) M (defBody (top 24)) { nx := fun _ M' => Fz k (.d .none) M', rt := Fz k } := by
  have s0 : Slot X 0 "a" := A.slot (by decide +kernel)
  have s1 : Slot X 1 "numbers" := A.slot (by decide +kernel)
  have b_sum := E.bf_sum
  obtain ⟨n, m, rfl, q⟩ := hT
  have q2 : k (.d (.int (n + 0))) M := by rw [Int.add_zero]; exact q
  refine ex_open (by rfl) ?_
  repeat walk_at "sx"
  refine ev_lc0 (own := [("name", 2), ("times", 3)]) C A.hN A.hS ?_ (by decide +kernel) (by intro _; rfl)
  refine pk_tup ?_
  repeat walk_at "sx"
theorem a_worth {P : Program} {w : World} {K : PySem.W.Frag} {mg : Str → Option Value} {base : Heap} (E : Fx w K mg) : Fat P w K mg base (He.ga K "worth") 1 T_worth := by
  obtain ⟨hm, fd, F⟩ := E.f_worth
  refine ⟨⟨fd, ["a", "numbers"], def_okF (N := ["a", "numbers", "name", "times"]) F ⟨rfl, rfl, rfl, by decide +kernel, rfl, by decide +kernel, by decide +kernel⟩ (fun ys M k h => ?_) (fun X C A ys M k h => w_worth E C A h), F.kp, F.bindsN fun _ _ _ _ _ _ us hl => match us, hl with | [_, _], _ => rfl⟩⟩
  unfold T_worth at h
  first | (obtain ⟨_, h, _⟩ := h; rw [h]; rfl) | (obtain ⟨_, _, h, _⟩ := h; rw [h]; rfl) | (obtain ⟨_, _, _, h, _⟩ := h; rw [h]; rfl) | (obtain ⟨_, _, _, _, h, _⟩ := h; rw [h]; rfl) | (obtain ⟨_, _, _, _, _, h, _⟩ := h; rw [h]; rfl) | (obtain ⟨_, _, _, _, _, _, h, _⟩ := h; rw [h]; rfl) | (obtain ⟨_, _, _, _, _, _, _, h, _⟩ := h; rw [h]; rfl) | (obtain ⟨_, _, _, _, _, _, _, _, h, _⟩ := h; rw [h]; rfl)
theorem d_worth {P : Program} {w : World} {K : PySem.W.Frag} {mg : Str → Option Value} {base : Heap} (E : Fx w K mg) : Dfn P w K mg base "worth" 1 T_worth := by
  obtain ⟨fd, ps, F, hk, hb⟩ := (a_worth (P := P) (base := base) E).ex
  exact ⟨⟨_, fd, ps, F, E.f_worth.1, hk, hb⟩, by decide⟩
def T_added : Tr := fun ys M k => ∃ a b : Int, ys = [.d (lenD a), .d (lenD b)] ∧ k (.d (lenD (a + b))) M
theorem w_added {P : Program} {w : World} {K : PySem.W.Frag} {mg : Str → Option Value} {base : Heap} (E : Fx w K mg) {X : Cx} (C : Cxi X P w K mg base 0) (A : At X ["a", "b", "found", "name", "times"] (defScope (top 20)) true) {ys : List Sy} {M : Mem} {k : Sy → Mem → Prop} (hT : T_added ys M k) :
    ExK X (startG ["a", "b", "found", "name", "times"] ys) M (defBody (top 20)) { nx := fun _ M' => Fz k (.d .none) M', rt := Fz k } := by
  have s0 : Slot X 0 "a" := A.slot (by decide +kernel)
  have s1 : Slot X 1 "b" := A.slot (by decide +kernel)
  have s2 : Slot X 2 "found" := A.slot (by decide +kernel)
  have s3 : Slot X 3 "name" := A.slot (by decide +kernel)
  have s4 : Slot X 4 "times" := A.slot (by decide +kernel)
  have b_dict := E.bt_dict
  have b_tuple := E.bt_tuple
  have b_sorted := E.bf_sorted
  obtain ⟨a, b, rfl, q⟩ := hT
  refine ex_open (by rfl) ?_
  repeat walk_at "sx"
  refine ca_dict0 C ?_
  intro f hf
  repeat walk_at "sx"
  refine ex_for C (bnd_tup C.nd C.calm (.cons s3 (.cons s4 .nil))) (pk_tup ?_) (by intro _; rfl)
  repeat walk_at "sx"
  try refine ⟨none_in, ?_⟩
  repeat walk_at "sx"
theorem a_added {P : Program} {w : World} {K : PySem.W.Frag} {mg : Str → Option Value} {base : Heap} (E : Fx w K mg) : Fat P w K mg base (He.ga K "added") 1 T_added := by
  obtain ⟨hm, fd, F⟩ := E.f_added
  refine ⟨⟨fd, ["a", "b"], def_okF (N := ["a", "b", "found", "name", "times"]) F ⟨rfl, rfl, rfl, by decide +kernel, rfl, by decide +kernel, by decide +kernel⟩ (fun ys M k h => ?_) (fun X C A ys M k h => w_added E C A h), F.kp, F.bindsN fun _ _ _ _ _ _ us hl => match us, hl with | [_, _], _ => rfl⟩⟩
  unfold T_added at h
  first | (obtain ⟨_, h, _⟩ := h; rw [h]; rfl) | (obtain ⟨_, _, h, _⟩ := h; rw [h]; rfl) | (obtain ⟨_, _, _, h, _⟩ := h; rw [h]; rfl) | (obtain ⟨_, _, _, _, h, _⟩ := h; rw [h]; rfl) | (obtain ⟨_, _, _, _, _, h, _⟩ := h; rw [h]; rfl) | (obtain ⟨_, _, _, _, _, _, h, _⟩ := h; rw [h]; rfl) | (obtain ⟨_, _, _, _, _, _, _, h, _⟩ := h; rw [h]; rfl) | (obtain ⟨_, _, _, _, _, _, _, _, h, _⟩ := h; rw [h]; rfl)
theorem d_added {P : Program} {w : World} {K : PySem.W.Frag} {mg : Str → Option Value} {base : Heap} (E : Fx w K mg) : Dfn P w K mg base "added" 1 T_added := by
  obtain ⟨fd, ps, F, hk, hb⟩ := (a_added (P := P) (base := base) E).ex
  exact ⟨⟨_, fd, ps, F, E.f_added.1, hk, hb⟩, by decide⟩
def T_exceeding : Tr := fun ys M k => ∃ a b : Int, ys = [.d (lenD a), .d (lenD b)] ∧ a ≤ b ∧ k (.d .none) M
theorem w_exceeding {P : Program} {w : World} {K : PySem.W.Frag} {mg : Str → Option Value} {base : Heap} (E : Fx w K mg) {X : Cx} (C : Cxi X P w K mg base 2) (A : At X ["a", "b", "found", "name", "gap"] (defScope (top 28)) true) {ys : List Sy} {M : Mem} {k : Sy → Mem → Prop} (hT : T_exceeding ys M k) :
    ExK X (startG ["a", "b", "found", "name", "gap"] ys) M (defBody (top 28)) { nx := fun _ M' => Fz k (.d .none) M', rt := Fz k } := by
  have s0 : Slot X 0 "a" := A.slot (by decide +kernel)
  have s1 : Slot X 1 "b" := A.slot (by decide +kernel)
  have s2 : Slot X 2 "found" := A.slot (by decide +kernel)
  have s3 : Slot X 3 "name" := A.slot (by decide +kernel)
  have s4 : Slot X 4 "gap" := A.slot (by decide +kernel)
  have d_noughts := d_noughts (P := P) (w := w) (K := K) (mg := mg) (base := base) E
  have b_list := E.bt_list
  have b_dict := E.bt_dict
  obtain ⟨a, b, rfl, h0, q⟩ := hT
  refine ex_open (by rfl) ?_
  repeat walk_at "sx"
  refine ex_for C (bnd_name C.nd s3) (pk_sl ?_) (by intro _; rfl)
  repeat walk_at "sx"
  try refine ⟨none_in, ?_⟩
  repeat walk_at "sx"
theorem a_exceeding {P : Program} {w : World} {K : PySem.W.Frag} {mg : Str → Option Value} {base : Heap} (E : Fx w K mg) : Fat P w K mg base (He.ga K "exceeding") 3 T_exceeding := by
  obtain ⟨hm, fd, F⟩ := E.f_exceeding
  refine ⟨⟨fd, ["a", "b"], def_okF (N := ["a", "b", "found", "name", "gap"]) F ⟨rfl, rfl, rfl, by decide +kernel, rfl, by decide +kernel, by decide +kernel⟩ (fun ys M k h => ?_) (fun X C A ys M k h => w_exceeding E C A h), F.kp, F.bindsN fun _ _ _ _ _ _ us hl => match us, hl with | [_, _], _ => rfl⟩⟩
  unfold T_exceeding at h
  first | (obtain ⟨_, h, _⟩ := h; rw [h]; rfl) | (obtain ⟨_, _, h, _⟩ := h; rw [h]; rfl) | (obtain ⟨_, _, _, h, _⟩ := h; rw [h]; rfl) | (obtain ⟨_, _, _, _, h, _⟩ := h; rw [h]; rfl) | (obtain ⟨_, _, _, _, _, h, _⟩ := h; rw [h]; rfl) | (obtain ⟨_, _, _, _, _, _, h, _⟩ := h; rw [h]; rfl) | (obtain ⟨_, _, _, _, _, _, _, h, _⟩ := h; rw [h]; rfl) | (obtain ⟨_, _, _, _, _, _, _, _, h, _⟩ := h; rw [h]; rfl)
theorem d_exceeding {P : Program} {w : World} {K : PySem.W.Frag} {mg : Str → Option Value} {base : Heap} (E : Fx w K mg) : Dfn P w K mg base "exceeding" 3 T_exceeding := by
  obtain ⟨fd, ps, F, hk, hb⟩ := (a_exceeding (P := P) (base := base) E).ex
  exact ⟨⟨_, fd, ps, F, E.f_exceeding.1, hk, hb⟩, by decide⟩
def T_less : Tr := fun ys M k => ∃ a b : Int, ys = [.d (lenD a), .d (lenD b)] ∧ b ≤ a ∧ k (.d (lenD (a - b))) M
theorem w_less {P : Program} {w : World} {K : PySem.W.Frag} {mg : Str → Option Value} {base : Heap} (E : Fx w K mg) {X : Cx} (C : Cxi X P w K mg base 3) (A : At X ["a", "b", "taken", "parts", "name", "times", "part"] (defScope (top 22)) true) {ys : List Sy} {M : Mem} {k : Sy → Mem → Prop} (hT : T_less ys M k) :
    ExK X (startG ["a", "b", "taken", "parts", "name", "times", "part"] ys) M (defBody (top 22)) { nx := fun _ M' => Fz k (.d .none) M', rt := Fz k } := by
  have s0 : Slot X 0 "a" := A.slot (by decide +kernel)
  have s1 : Slot X 1 "b" := A.slot (by decide +kernel)
  have s2 : Slot X 2 "taken" := A.slot (by decide +kernel)
  have s3 : Slot X 3 "parts" := A.slot (by decide +kernel)
  have d_exceeding := d_exceeding (P := P) (w := w) (K := K) (mg := mg) (base := base) E
  have b_dict := E.bt_dict
  have b_tuple := E.bt_tuple
  obtain ⟨a, b, rfl, h0, q⟩ := hT
  refine ex_open (by rfl) ?_
  repeat walk_at "sx"
  refine ca_dict0 C ?_
  intro f hf
  repeat walk_at "sx"
  refine ex_setLc0 (own := [("name", 4), ("times", 5)]) C A.hN A.hS (by assumption) (by decide +kernel) ?_ (by decide +kernel) (sw_true (by rw [A.hS]; rfl) (by rw [A.hS]; decide +kernel) (by decide +kernel) (by decide +kernel)) (by intro _; rfl)
  refine pk_tup ?_
  repeat walk_at "sx"
  refine ev_lc0 (own := [("part", 6)]) C A.hN A.hS ?_ (by decide +kernel) (by intro _; rfl)
  refine pk_sl ?_
  repeat walk_at "sx"
theorem a_less {P : Program} {w : World} {K : PySem.W.Frag} {mg : Str → Option Value} {base : Heap} (E : Fx w K mg) : Fat P w K mg base (He.ga K "less") 4 T_less := by
  obtain ⟨hm, fd, F⟩ := E.f_less
  refine ⟨⟨fd, ["a", "b"], def_okF (N := ["a", "b", "taken", "parts", "name", "times", "part"]) F ⟨rfl, rfl, rfl, by decide +kernel, rfl, by decide +kernel, by decide +kernel⟩ (fun ys M k h => ?_) (fun X C A ys M k h => w_less E C A h), F.kp, F.bindsN fun _ _ _ _ _ _ us hl => match us, hl with | [_, _], _ => rfl⟩⟩
  unfold T_less at h
  first | (obtain ⟨_, h, _⟩ := h; rw [h]; rfl) | (obtain ⟨_, _, h, _⟩ := h; rw [h]; rfl) | (obtain ⟨_, _, _, h, _⟩ := h; rw [h]; rfl) | (obtain ⟨_, _, _, _, h, _⟩ := h; rw [h]; rfl) | (obtain ⟨_, _, _, _, _, h, _⟩ := h; rw [h]; rfl) | (obtain ⟨_, _, _, _, _, _, h, _⟩ := h; rw [h]; rfl) | (obtain ⟨_, _, _, _, _, _, _, h, _⟩ := h; rw [h]; rfl) | (obtain ⟨_, _, _, _, _, _, _, _, h, _⟩ := h; rw [h]; rfl)
theorem d_less {P : Program} {w : World} {K : PySem.W.Frag} {mg : Str → Option Value} {base : Heap} (E : Fx w K mg) : Dfn P w K mg base "less" 4 T_less := by
  obtain ⟨fd, ps, F, hk, hb⟩ := (a_less (P := P) (base := base) E).ex
  exact ⟨⟨_, fd, ps, F, E.f_less.1, hk, hb⟩, by decide⟩
def T_is_small : Tr := fun ys M k => ∃ n : Int, ys = [.d (lenD n)] ∧ lenOk n ∧ k (.d (.bool true)) M
theorem w_is_small {P : Program} {w : World} {K : PySem.W.Frag} {mg : Str → Option Value} {base : Heap} (E : Fx w K mg) {X : Cx} (C : Cxi X P w K mg base 2) (A : At X ["thing", "name", "times"] (defScope (top 33)) true) {ys : List Sy} {M : Mem} {k : Sy → Mem → Prop} (hT : T_is_small ys M k) :
    ExK X (startG ["thing", "name", "times"] ys) M (defBody (top 33)) { nx := fun _ M' => Fz k (.d .none) M', rt := Fz k } := by
  have s0 : Slot X 0 "thing" := A.slot (by decide +kernel)
  have d_is_length := d_is_length (P := P) (w := w) (K := K) (mg := mg) (base := base) E
  have g_MOST_NUMBER := E.g_MOST_NUMBER
  have b_all := E.bf_all
  obtain ⟨n, rfl, ⟨h0, h1⟩, q⟩ := hT
  refine ex_open (by rfl) ?_
  repeat walk_at "sx"
  refine ev_lc0 (own := [("name", 1), ("times", 2)]) C A.hN A.hS ?_ (by decide +kernel) (by intro _; rfl)
  refine pk_tup ?_
  repeat walk_at "sx"
  repeat walk_at "sx"
theorem a_is_small {P : Program} {w : World} {K : PySem.W.Frag} {mg : Str → Option Value} {base : Heap} (E : Fx w K mg) : Fat P w K mg base (He.ga K "is_small") 3 T_is_small := by
  obtain ⟨hm, fd, F⟩ := E.f_is_small
  refine ⟨⟨fd, ["thing"], def_okF (N := ["thing", "name", "times"]) F ⟨rfl, rfl, rfl, by decide +kernel, rfl, by decide +kernel, by decide +kernel⟩ (fun ys M k h => ?_) (fun X C A ys M k h => w_is_small E C A h), F.kp, F.bindsN fun _ _ _ _ _ _ us hl => match us, hl with | [_], _ => rfl⟩⟩
  unfold T_is_small at h
  first | (obtain ⟨_, h, _⟩ := h; rw [h]; rfl) | (obtain ⟨_, _, h, _⟩ := h; rw [h]; rfl) | (obtain ⟨_, _, _, h, _⟩ := h; rw [h]; rfl) | (obtain ⟨_, _, _, _, h, _⟩ := h; rw [h]; rfl) | (obtain ⟨_, _, _, _, _, h, _⟩ := h; rw [h]; rfl) | (obtain ⟨_, _, _, _, _, _, h, _⟩ := h; rw [h]; rfl) | (obtain ⟨_, _, _, _, _, _, _, h, _⟩ := h; rw [h]; rfl) | (obtain ⟨_, _, _, _, _, _, _, _, h, _⟩ := h; rw [h]; rfl)
theorem d_is_small {P : Program} {w : World} {K : PySem.W.Frag} {mg : Str → Option Value} {base : Heap} (E : Fx w K mg) : Dfn P w K mg base "is_small" 3 T_is_small := by
  obtain ⟨fd, ps, F, hk, hb⟩ := (a_is_small (P := P) (base := base) E).ex
  exact ⟨⟨_, fd, ps, F, E.f_is_small.1, hk, hb⟩, by decide⟩
def T_parts_told : Tr := fun ys M k => ∃ κ : Kd, ys = [.d (encK κ)] ∧ κ.ok ∧ k (.sl []) M
theorem w_parts_told {P : Program} {w : World} {K : PySem.W.Frag} {mg : Str → Option Value} {base : Heap} (E : Fx w K mg) {X : Cx} (C : Cxi X P w K mg base 3) (A : At X ["thing"] (defScope (top 34)) true) {ys : List Sy} {M : Mem} {k : Sy → Mem → Prop} (hT : T_parts_told ys M k) :
    ExK X (startG ["thing"] ys) M (defBody (top 34)) { nx := fun _ M' => Fz k (.d .none) M', rt := Fz k } := by
  have s0 : Slot X 0 "thing" := A.slot (by decide +kernel)
  have b_isinstance := E.bf_isinstance
  have b_tuple := E.bt_tuple
  have b_len := E.bf_len
  have d_is_small := d_is_small (P := P) (w := w) (K := K) (mg := mg) (base := base) E
  obtain ⟨κ, rfl, h0, q⟩ := hT
  rcases κ with _ | n
  all_goals
    dsimp only [encK]
    refine ex_open (by rfl) ?_
    repeat walk_at "sx"
  trace_state
theorem a_parts_told {P : Program} {w : World} {K : PySem.W.Frag} {mg : Str → Option Value} {base : Heap} (E : Fx w K mg) : Fat P w K mg base (He.ga K "parts_told") 4 T_parts_told := by
  obtain ⟨hm, fd, F⟩ := E.f_parts_told
  refine ⟨⟨fd, ["thing"], def_okF (N := ["thing"]) F ⟨rfl, rfl, rfl, by decide +kernel, rfl, by decide +kernel, by decide +kernel⟩ (fun ys M k h => ?_) (fun X C A ys M k h => w_parts_told E C A h), F.kp, F.bindsN fun _ _ _ _ _ _ us hl => match us, hl with | [_], _ => rfl⟩⟩
  unfold T_parts_told at h
  first | (obtain ⟨_, h, _⟩ := h; rw [h]; rfl) | (obtain ⟨_, _, h, _⟩ := h; rw [h]; rfl) | (obtain ⟨_, _, _, h, _⟩ := h; rw [h]; rfl) | (obtain ⟨_, _, _, _, h, _⟩ := h; rw [h]; rfl) | (obtain ⟨_, _, _, _, _, h, _⟩ := h; rw [h]; rfl) | (obtain ⟨_, _, _, _, _, _, h, _⟩ := h; rw [h]; rfl) | (obtain ⟨_, _, _, _, _, _, _, h, _⟩ := h; rw [h]; rfl) | (obtain ⟨_, _, _, _, _, _, _, _, h, _⟩ := h; rw [h]; rfl)
theorem d_parts_told {P : Program} {w : World} {K : PySem.W.Frag} {mg : Str → Option Value} {base : Heap} (E : Fx w K mg) : Dfn P w K mg base "parts_told" 4 T_parts_told := by
  obtain ⟨fd, ps, F, hk, hb⟩ := (a_parts_told (P := P) (base := base) E).ex
  exact ⟨⟨_, fd, ps, F, E.f_parts_told.1, hk, hb⟩, by decide⟩
def T_within : Tr := fun ys M k => ∃ κ : Kd, ys = [.d (encK κ)] ∧ k (.sl []) M
theorem w_within {P : Program} {w : World} {K : PySem.W.Frag} {mg : Str → Option Value} {base : Heap} (E : Fx w K mg) {X : Cx} (C : Cxi X P w K mg base 0) (A : At X ["kind"] (defScope (top 36)) true) {ys : List Sy} {M : Mem} {k : Sy → Mem → Prop} (hT : T_within ys M k) :
    ExK X (startG ["kind"] ys) M (defBody (top 36)) { nx := fun _ M' => Fz k (.d .none) M', rt := Fz k } := by
  have s0 : Slot X 0 "kind" := A.slot (by decide +kernel)
  obtain ⟨κ, rfl, q⟩ := hT
  rcases κ with _ | n
  all_goals
    dsimp only [encK]
    refine ex_open (by rfl) ?_
    repeat walk_at "sx"
  trace_state
theorem a_within {P : Program} {w : World} {K : PySem.W.Frag} {mg : Str → Option Value} {base : Heap} (E : Fx w K mg) : Fat P w K mg base (He.ga K "within") 1 T_within := by
  obtain ⟨hm, fd, F⟩ := E.f_within
  refine ⟨⟨fd, ["kind"], def_okF (N := ["kind"]) F ⟨rfl, rfl, rfl, by decide +kernel, rfl, by decide +kernel, by decide +kernel⟩ (fun ys M k h => ?_) (fun X C A ys M k h => w_within E C A h), F.kp, F.bindsN fun _ _ _ _ _ _ us hl => match us, hl with | [_], _ => rfl⟩⟩
  unfold T_within at h
  first | (obtain ⟨_, h, _⟩ := h; rw [h]; rfl) | (obtain ⟨_, _, h, _⟩ := h; rw [h]; rfl) | (obtain ⟨_, _, _, h, _⟩ := h; rw [h]; rfl) | (obtain ⟨_, _, _, _, h, _⟩ := h; rw [h]; rfl) | (obtain ⟨_, _, _, _, _, h, _⟩ := h; rw [h]; rfl) | (obtain ⟨_, _, _, _, _, _, h, _⟩ := h; rw [h]; rfl) | (obtain ⟨_, _, _, _, _, _, _, h, _⟩ := h; rw [h]; rfl) | (obtain ⟨_, _, _, _, _, _, _, _, h, _⟩ := h; rw [h]; rfl)
theorem d_within {P : Program} {w : World} {K : PySem.W.Frag} {mg : Str → Option Value} {base : Heap} (E : Fx w K mg) : Dfn P w K mg base "within" 1 T_within := by
  obtain ⟨fd, ps, F, hk, hb⟩ := (a_within (P := P) (base := base) E).ex
  exact ⟨⟨_, fd, ps, F, E.f_within.1, hk, hb⟩, by decide⟩
def T_has_length : Tr := fun ys M k => ∃ κ : Kd, ys = [.d (encK κ)] ∧ k (.d (.bool (match κ with | .whole => false | .place _ => true))) M
theorem w_has_length {P : Program} {w : World} {K : PySem.W.Frag} {mg : Str → Option Value} {base : Heap} (E : Fx w K mg) {X : Cx} (C : Cxi X P w K mg base 0) (A : At X ["kind"] (defScope (top 37)) true) {ys : List Sy} {M : Mem} {k : Sy → Mem → Prop} (hT : T_has_length ys M k) :
    ExK X (startG ["kind"] ys) M (defBody (top 37)) { nx := fun _ M' => Fz k (.d .none) M', rt := Fz k } := by
  have s0 : Slot X 0 "kind" := A.slot (by decide +kernel)
  obtain ⟨κ, rfl, q⟩ := hT
  rcases κ with _ | n
  all_goals
    dsimp only [encK]
    refine ex_open (by rfl) ?_
    repeat walk_at "sx"
theorem a_has_length {P : Program} {w : World} {K : PySem.W.Frag} {mg : Str → Option Value} {base : Heap} (E : Fx w K mg) : Fat P w K mg base (He.ga K "has_length") 1 T_has_length := by
  obtain ⟨hm, fd, F⟩ := E.f_has_length
  refine ⟨⟨fd, ["kind"], def_okF (N := ["kind"]) F ⟨rfl, rfl, rfl, by decide +kernel, rfl, by decide +kernel, by decide +kernel⟩ (fun ys M k h => ?_) (fun X C A ys M k h => w_has_length E C A h), F.kp, F.bindsN fun _ _ _ _ _ _ us hl => match us, hl with | [_], _ => rfl⟩⟩
  unfold T_has_length at h
  first | (obtain ⟨_, h, _⟩ := h; rw [h]; rfl) | (obtain ⟨_, _, h, _⟩ := h; rw [h]; rfl) | (obtain ⟨_, _, _, h, _⟩ := h; rw [h]; rfl) | (obtain ⟨_, _, _, _, h, _⟩ := h; rw [h]; rfl) | (obtain ⟨_, _, _, _, _, h, _⟩ := h; rw [h]; rfl) | (obtain ⟨_, _, _, _, _, _, h, _⟩ := h; rw [h]; rfl) | (obtain ⟨_, _, _, _, _, _, _, h, _⟩ := h; rw [h]; rfl) | (obtain ⟨_, _, _, _, _, _, _, _, h, _⟩ := h; rw [h]; rfl)
theorem d_has_length {P : Program} {w : World} {K : PySem.W.Frag} {mg : Str → Option Value} {base : Heap} (E : Fx w K mg) : Dfn P w K mg base "has_length" 1 T_has_length := by
  obtain ⟨fd, ps, F, hk, hb⟩ := (a_has_length (P := P) (base := base) E).ex
  exact ⟨⟨_, fd, ps, F, E.f_has_length.1, hk, hb⟩, by decide⟩
def T_is_number : Tr := fun ys M k => ∃ i : Int, ys = [.d (.int i)] ∧ (0 ≤ i ∧ i < 1000000000000) ∧ k (.d (.bool true)) M
theorem w_is_number {P : Program} {w : World} {K : PySem.W.Frag} {mg : Str → Option Value} {base : Heap} (E : Fx w K mg) {X : Cx} (C : Cxi X P w K mg base 1) (A : At X ["thing"] (defScope (top 51)) true) {ys : List Sy} {M : Mem} {k : Sy → Mem → Prop} (hT : T_is_number ys M k) :
    ExK X (startG ["thing"] ys) M (defBody (top 51)) { nx := fun _ M' => Fz k (.d .none) M', rt := Fz k } := by
  have s0 : Slot X 0 "thing" := A.slot (by decide +kernel)
  have d_is_whole := d_is_whole (P := P) (w := w) (K := K) (mg := mg) (base := base) E
  have g_LARGE_rows := E.g_LARGE_rows
  obtain ⟨i, rfl, h0, q⟩ := hT
  refine ex_open (by rfl) ?_
  repeat walk_at "sx"
  rw [decide_eq_true h0.2]
  exact .is q
theorem a_is_number {P : Program} {w : World} {K : PySem.W.Frag} {mg : Str → Option Value} {base : Heap} (E : Fx w K mg) : Fat P w K mg base (He.ga K "is_number") 2 T_is_number := by
  obtain ⟨hm, fd, F⟩ := E.f_is_number
  refine ⟨⟨fd, ["thing"], def_okF (N := ["thing"]) F ⟨rfl, rfl, rfl, by decide +kernel, rfl, by decide +kernel, by decide +kernel⟩ (fun ys M k h => ?_) (fun X C A ys M k h => w_is_number E C A h), F.kp, F.bindsN fun _ _ _ _ _ _ us hl => match us, hl with | [_], _ => rfl⟩⟩
  unfold T_is_number at h
  first | (obtain ⟨_, h, _⟩ := h; rw [h]; rfl) | (obtain ⟨_, _, h, _⟩ := h; rw [h]; rfl) | (obtain ⟨_, _, _, h, _⟩ := h; rw [h]; rfl) | (obtain ⟨_, _, _, _, h, _⟩ := h; rw [h]; rfl) | (obtain ⟨_, _, _, _, _, h, _⟩ := h; rw [h]; rfl) | (obtain ⟨_, _, _, _, _, _, h, _⟩ := h; rw [h]; rfl) | (obtain ⟨_, _, _, _, _, _, _, h, _⟩ := h; rw [h]; rfl) | (obtain ⟨_, _, _, _, _, _, _, _, h, _⟩ := h; rw [h]; rfl)
theorem d_is_number {P : Program} {w : World} {K : PySem.W.Frag} {mg : Str → Option Value} {base : Heap} (E : Fx w K mg) : Dfn P w K mg base "is_number" 2 T_is_number := by
  obtain ⟨fd, ps, F, hk, hb⟩ := (a_is_number (P := P) (base := base) E).ex
  exact ⟨⟨_, fd, ps, F, E.f_is_number.1, hk, hb⟩, by decide⟩
def T_is_reckoned : Tr := fun ys M k => ∃ z : Str, ys = [.d (.str z)] ∧ wordOk z ∧ k (.d (.bool true)) M
theorem w_is_reckoned {P : Program} {w : World} {K : PySem.W.Frag} {mg : Str → Option Value} {base : Heap} (E : Fx w K mg) {X : Cx} (C : Cxi X P w K mg base 0) (A : At X ["thing"] (defScope (top 53)) true) {ys : List Sy} {M : Mem} {k : Sy → Mem → Prop} (hT : T_is_reckoned ys M k) :
    ExK X (startG ["thing"] ys) M (defBody (top 53)) { nx := fun _ M' => Fz k (.d .none) M', rt := Fz k } := by
  have s0 : Slot X 0 "thing" := A.slot (by decide +kernel)
  have b_isinstance := E.bf_isinstance
  have b_str := E.bt_str
  have g_RECKONED := E.g_RECKONED
  obtain ⟨z, rfl, h0, q⟩ := hT
  refine ex_open (by rfl) ?_
  repeat walk_at "sx"
  refine ok_inTs (zs := ["plus", "minus", "times", "less", "same"]) ?_
  rw [decide_eq_true (by rcases h0 with rfl | rfl | rfl | rfl | rfl <;> decide)]
  repeat walk_at "sx"
theorem a_is_reckoned {P : Program} {w : World} {K : PySem.W.Frag} {mg : Str → Option Value} {base : Heap} (E : Fx w K mg) : Fat P w K mg base (He.ga K "is_reckoned") 1 T_is_reckoned := by
  obtain ⟨hm, fd, F⟩ := E.f_is_reckoned
  refine ⟨⟨fd, ["thing"], def_okF (N := ["thing"]) F ⟨rfl, rfl, rfl, by decide +kernel, rfl, by decide +kernel, by decide +kernel⟩ (fun ys M k h => ?_) (fun X C A ys M k h => w_is_reckoned E C A h), F.kp, F.bindsN fun _ _ _ _ _ _ us hl => match us, hl with | [_], _ => rfl⟩⟩
  unfold T_is_reckoned at h
  first | (obtain ⟨_, h, _⟩ := h; rw [h]; rfl) | (obtain ⟨_, _, h, _⟩ := h; rw [h]; rfl) | (obtain ⟨_, _, _, h, _⟩ := h; rw [h]; rfl) | (obtain ⟨_, _, _, _, h, _⟩ := h; rw [h]; rfl) | (obtain ⟨_, _, _, _, _, h, _⟩ := h; rw [h]; rfl) | (obtain ⟨_, _, _, _, _, _, h, _⟩ := h; rw [h]; rfl) | (obtain ⟨_, _, _, _, _, _, _, h, _⟩ := h; rw [h]; rfl) | (obtain ⟨_, _, _, _, _, _, _, _, h, _⟩ := h; rw [h]; rfl)
theorem d_is_reckoned {P : Program} {w : World} {K : PySem.W.Frag} {mg : Str → Option Value} {base : Heap} (E : Fx w K mg) : Dfn P w K mg base "is_reckoned" 1 T_is_reckoned := by
  obtain ⟨fd, ps, F, hk, hb⟩ := (a_is_reckoned (P := P) (base := base) E).ex
  exact ⟨⟨_, fd, ps, F, E.f_is_reckoned.1, hk, hb⟩, by decide⟩
def T_held : Tr := fun ys M k => ∃ κ : Kd, ys = [.d (encK κ), .d (encK κ)] ∧ k (.d .none) M
theorem w_held {P : Program} {w : World} {K : PySem.W.Frag} {mg : Str → Option Value} {base : Heap} (E : Fx w K mg) {X : Cx} (C : Cxi X P w K mg base 1) (A : At X ["one", "other", "mine", "yours", "found"] (defScope (top 42)) true) {ys : List Sy} {M : Mem} {k : Sy → Mem → Prop} (hT : T_held ys M k) :
    ExK X (startG ["one", "other", "mine", "yours", "found"] ys) M (defBody (top 42)) { nx := fun _ M' => Fz k (.d .none) M', rt := Fz k } := by
  have s0 : Slot X 0 "one" := A.slot (by decide +kernel)
  have s1 : Slot X 1 "other" := A.slot (by decide +kernel)
  have s2 : Slot X 2 "mine" := A.slot (by decide +kernel)
  have s3 : Slot X 3 "yours" := A.slot (by decide +kernel)
  have s4 : Slot X 4 "found" := A.slot (by decide +kernel)
  have d_has_length := d_has_length (P := P) (w := w) (K := K) (mg := mg) (base := base) E
  have b_zip := E.b_zip
  have d_within := d_within (P := P) (w := w) (K := K) (mg := mg) (base := base) E
  obtain ⟨κ, rfl, q⟩ := hT
  rcases κ with _ | n
  · dsimp only [encK]
    refine ex_open (by rfl) ?_
    repeat walk_at "sx"
    refine ⟨.whole, rfl, ?_⟩
    repeat walk_at "sx"
    refine ex_for C (bnd_tup C.nd C.calm (.cons s2 (.cons s3 .nil))) (pk_zip0 C (A.gl (by decide +kernel)) b_zip ?_) (by intro _; rfl)
    repeat walk_at "sx"
    refine ⟨.whole, rfl, ?_⟩
    repeat walk_at "sx"
    refine ⟨.whole, rfl, ?_⟩
    repeat walk_at "sx"
    try refine ⟨none_in, ?_⟩
    repeat walk_at "sx"
  · have e1 : PyData.eqv (lenD n) (lenD n) = true := by simp [PyData.eqv, PyData.eqvAll]
    dsimp only [encK]
    refine ex_open (by rfl) ?_
    repeat walk_at "sx"
    refine ⟨.place n, rfl, ?_⟩
    repeat walk_at "sx"
    refine ok_neD C (by rfl) (by rfl) ?_
    rw [e1]
    repeat walk_at "sx"
    refine ex_for C (bnd_tup C.nd C.calm (.cons s2 (.cons s3 .nil))) (pk_zip0 C (A.gl (by decide +kernel)) b_zip ?_) (by intro _; rfl)
    repeat walk_at "sx"
    refine ⟨.place n, rfl, ?_⟩
    repeat walk_at "sx"
    refine ⟨.place n, rfl, ?_⟩
    repeat walk_at "sx"
    try refine ⟨none_in, ?_⟩
    repeat walk_at "sx"
theorem a_held {P : Program} {w : World} {K : PySem.W.Frag} {mg : Str → Option Value} {base : Heap} (E : Fx w K mg) : Fat P w K mg base (He.ga K "held") 2 T_held := by
  obtain ⟨hm, fd, F⟩ := E.f_held
  refine ⟨⟨fd, ["one", "other"], def_okF (N := ["one", "other", "mine", "yours", "found"]) F ⟨rfl, rfl, rfl, by decide +kernel, rfl, by decide +kernel, by decide +kernel⟩ (fun ys M k h => ?_) (fun X C A ys M k h => w_held E C A h), F.kp, F.bindsN fun _ _ _ _ _ _ us hl => match us, hl with | [_, _], _ => rfl⟩⟩
  unfold T_held at h
  first | (obtain ⟨_, h, _⟩ := h; rw [h]; rfl) | (obtain ⟨_, _, h, _⟩ := h; rw [h]; rfl) | (obtain ⟨_, _, _, h, _⟩ := h; rw [h]; rfl) | (obtain ⟨_, _, _, _, h, _⟩ := h; rw [h]; rfl) | (obtain ⟨_, _, _, _, _, h, _⟩ := h; rw [h]; rfl) | (obtain ⟨_, _, _, _, _, _, h, _⟩ := h; rw [h]; rfl) | (obtain ⟨_, _, _, _, _, _, _, h, _⟩ := h; rw [h]; rfl) | (obtain ⟨_, _, _, _, _, _, _, _, h, _⟩ := h; rw [h]; rfl)
theorem d_held {P : Program} {w : World} {K : PySem.W.Frag} {mg : Str → Option Value} {base : Heap} (E : Fx w K mg) : Dfn P w K mg base "held" 2 T_held := by
  obtain ⟨fd, ps, F, hk, hb⟩ := (a_held (P := P) (base := base) E).ex
  exact ⟨⟨_, fd, ps, F, E.f_held.1, hk, hb⟩, by decide⟩
def T_is_kind : Tr := fun ys M k => ∃ κ : Kd, ys = [.d (encK κ)] ∧ κ.ok ∧ k (.d (.bool true)) M
theorem w_is_kind {P : Program} {w : World} {K : PySem.W.Frag} {mg : Str → Option Value} {base : Heap} (E : Fx w K mg) {X : Cx} (C : Cxi X P w K mg base 4) (A : At X ["thing", "waiting", "size", "parts"] (defScope (top 35)) true) {ys : List Sy} {M : Mem} {k : Sy → Mem → Prop} (hT : T_is_kind ys M k) :
    ExK X (startG ["thing", "waiting", "size", "parts"] ys) M (defBody (top 35)) { nx := fun _ M' => Fz k (.d .none) M', rt := Fz k } := by
  have s0 : Slot X 0 "thing" := A.slot (by decide +kernel)
  have s1 : Slot X 1 "waiting" := A.slot (by decide +kernel)
  have s2 : Slot X 2 "size" := A.slot (by decide +kernel)
  have s3 : Slot X 3 "parts" := A.slot (by decide +kernel)
  have b_len := E.bf_len
  have d_parts_told := d_parts_told (P := P) (w := w) (K := K) (mg := mg) (base := base) E
  have g_MOST_SIZE := E.g_MOST_SIZE
  obtain ⟨κ, rfl, h0, q⟩ := hT
  refine ex_open (by rfl) ?_
  repeat walk_at "sx"
  
  rename_i a ha
  refine ex_whileL C (fun m G M' => (m = 1 ∧ G = [some (.d (encK κ)), some (.v (.ref a)), some (.d (.int 0)), none] ∧ M' = updM M a (.lst [.d (encK κ)])) ∨ (m = 0 ∧ G = [some (.d (encK κ)), some (.v (.ref a)), some (.d (.int 1)), some (.sl [])] ∧ M' = updM M a (.lst []))) (m0 := 1) (.inl ⟨rfl, rfl, rfl⟩) ?_
  rintro m G M1 (⟨rfl, rfl, rfl⟩ | ⟨rfl, rfl, rfl⟩)
  · repeat walk_at "sx"
    refine ⟨[], _, updM_same, ?_⟩
    rw [updM_updM]
    repeat walk_at "sx"
    rw [updM_updM]
    exact .mk 0 (by decide) (.inr ⟨rfl, rfl, rfl⟩)
  · repeat walk_at "sx"
theorem a_is_kind {P : Program} {w : World} {K : PySem.W.Frag} {mg : Str → Option Value} {base : Heap} (E : Fx w K mg) : Fat P w K mg base (He.ga K "is_kind") 5 T_is_kind := by
  obtain ⟨hm, fd, F⟩ := E.f_is_kind
  refine ⟨⟨fd, ["thing"], def_okF (N := ["thing", "waiting", "size", "parts"]) F ⟨rfl, rfl, rfl, by decide +kernel, rfl, by decide +kernel, by decide +kernel⟩ (fun ys M k h => ?_) (fun X C A ys M k h => w_is_kind E C A h), F.kp, F.bindsN fun _ _ _ _ _ _ us hl => match us, hl with | [_], _ => rfl⟩⟩
  unfold T_is_kind at h
  first | (obtain ⟨_, h, _⟩ := h; rw [h]; rfl) | (obtain ⟨_, _, h, _⟩ := h; rw [h]; rfl) | (obtain ⟨_, _, _, h, _⟩ := h; rw [h]; rfl) | (obtain ⟨_, _, _, _, h, _⟩ := h; rw [h]; rfl) | (obtain ⟨_, _, _, _, _, h, _⟩ := h; rw [h]; rfl) | (obtain ⟨_, _, _, _, _, _, h, _⟩ := h; rw [h]; rfl) | (obtain ⟨_, _, _, _, _, _, _, h, _⟩ := h; rw [h]; rfl) | (obtain ⟨_, _, _, _, _, _, _, _, h, _⟩ := h; rw [h]; rfl)
theorem d_is_kind {P : Program} {w : World} {K : PySem.W.Frag} {mg : Str → Option Value} {base : Heap} (E : Fx w K mg) : Dfn P w K mg base "is_kind" 5 T_is_kind := by
  obtain ⟨fd, ps, F, hk, hb⟩ := (a_is_kind (P := P) (base := base) E).ex
  exact ⟨⟨_, fd, ps, F, E.f_is_kind.1, hk, hb⟩, by decide⟩
def T_parts_of : Tr := fun ys M k => ∃ e : Ex, ys = [.d (enc e)] ∧ k (.sl ((kids e).map fun a => .d (enc a))) M
theorem w_parts_of {P : Program} {w : World} {K : PySem.W.Frag} {mg : Str → Option Value} {base : Heap} (E : Fx w K mg) {X : Cx} (C : Cxi X P w K mg base 0) (A : At X ["expression", "found", "sign", "part"] (defScope (top 56)) true) {ys : List Sy} {M : Mem} {k : Sy → Mem → Prop} (hT : T_parts_of ys M k) :
    ExK X (startG ["expression", "found", "sign", "part"] ys) M (defBody (top 56)) { nx := fun _ M' => Fz k (.d .none) M', rt := Fz k } := by
  have s0 : Slot X 0 "expression" := A.slot (by decide +kernel)
  have s1 : Slot X 1 "found" := A.slot (by decide +kernel)
  have s2 : Slot X 2 "sign" := A.slot (by decide +kernel)
  have s3 : Slot X 3 "part" := A.slot (by decide +kernel)
  have b_zip := E.b_zip
  have g_SHAPES := E.g_SHAPES
  obtain ⟨e, rfl, q⟩ := hT
  have l1 := E.l_SHAPES
  have t1 := shape_at E e
  have hz := shape_len e
  have hlen : (PyData.str (wordE e) :: argsE e).length = (argsE e).length + 1 := rfl
  have hal := args_len e
  rw [enc_eq]
  refine ex_open (by rfl) ?_
  repeat walk_at "sx"
  rename_i a1 ha1
  refine ex_for C (bnd_tup C.nd C.calm (.cons s2 (.cons s3 .nil))) (pk_zst C (A.gl (by decide +kernel)) b_zip ?_) (by intro _; rfl)
  repeat walk_at "sx"
  refine sk_tail (itms_ne e) ?_
  repeat walk_at "sx"
  refine ⟨zipL_ok, ?_⟩
  rw [zip_itms]
  refine forL_inv (fun i G M' => Stop (∃ o2 o3, G = [some (.d (.tuple (.str (wordE e) :: argsE e))), some (.v (.ref a1)), o2, o3] ∧ M' = updM M a1 (.lst ((((itms e).take i).flatMap Itm.kid).map fun a => .d (enc a))))) 0 (.mk ⟨none, none, rfl, rfl⟩) ?_ ?_
  · intro i y G M1 hy hP
    obtain ⟨o2, o3, rfl, rfl⟩ := hP.go
    obtain ⟨it, hi, rfl⟩ := itm_get hy
    rw [Nat.zero_add]
    have hl : ((((itms e).take i).flatMap Itm.kid).map fun a => Sy.d (enc a)).length ≤ 100000 := by
      have h1 := kids_len e
      have h2 : (((itms e).take i).flatMap Itm.kid).length ≤ ((itms e).flatMap Itm.kid).length := by
        have h3 : (itms e).flatMap Itm.kid = ((itms e).take i).flatMap Itm.kid ++ ((itms e).drop i).flatMap Itm.kid := by rw [← List.flatMap_append, List.take_append_drop]
        rw [h3, List.length_append]
        omega
      rw [kids_itms] at h2
      rw [List.length_map]
      omega
    cases it
    case e a =>
      dsimp only [Itm.sy]
      repeat walk_at "sx"
      exact .mk ⟨_, _, rfl, by rw [updM_updM, kids_next hi, List.map_append]; rfl⟩
    all_goals
      dsimp only [Itm.sy]
      repeat walk_at "sx"
      exact .mk ⟨_, _, rfl, by rw [kids_next hi]; simp [Itm.kid]⟩
  intro G M1 hP
  obtain ⟨o2, o3, rfl, hM⟩ := hP.go
  rw [Nat.zero_add, List.length_map, List.take_length, kids_itms] at hM
  subst hM
  repeat walk_at "sx"
  exact .lst ha1 (.is q)
theorem a_parts_of {P : Program} {w : World} {K : PySem.W.Frag} {mg : Str → Option Value} {base : Heap} (E : Fx w K mg) : Fat P w K mg base (He.ga K "parts_of") 1 T_parts_of := by
  obtain ⟨hm, fd, F⟩ := E.f_parts_of
  refine ⟨⟨fd, ["expression"], def_okF (N := ["expression", "found", "sign", "part"]) F ⟨rfl, rfl, rfl, by decide +kernel, rfl, by decide +kernel, by decide +kernel⟩ (fun ys M k h => ?_) (fun X C A ys M k h => w_parts_of E C A h), F.kp, F.bindsN fun _ _ _ _ _ _ us hl => match us, hl with | [_], _ => rfl⟩⟩
  unfold T_parts_of at h
  first | (obtain ⟨_, h, _⟩ := h; rw [h]; rfl) | (obtain ⟨_, _, h, _⟩ := h; rw [h]; rfl) | (obtain ⟨_, _, _, h, _⟩ := h; rw [h]; rfl) | (obtain ⟨_, _, _, _, h, _⟩ := h; rw [h]; rfl) | (obtain ⟨_, _, _, _, _, h, _⟩ := h; rw [h]; rfl) | (obtain ⟨_, _, _, _, _, _, h, _⟩ := h; rw [h]; rfl) | (obtain ⟨_, _, _, _, _, _, _, h, _⟩ := h; rw [h]; rfl) | (obtain ⟨_, _, _, _, _, _, _, _, h, _⟩ := h; rw [h]; rfl)
theorem d_parts_of {P : Program} {w : World} {K : PySem.W.Frag} {mg : Str → Option Value} {base : Heap} (E : Fx w K mg) : Dfn P w K mg base "parts_of" 1 T_parts_of := by
  obtain ⟨fd, ps, F, hk, hb⟩ := (a_parts_of (P := P) (base := base) E).ex
  exact ⟨⟨_, fd, ps, F, E.f_parts_of.1, hk, hb⟩, by decide⟩
def T_is_node : Tr := fun ys M k => ∃ e : Ex, ys = [.d (enc e)] ∧ ndOk e ∧ k (.d (.bool true)) M
theorem w_is_node {P : Program} {w : World} {K : PySem.W.Frag} {mg : Str → Option Value} {base : Heap} (E : Fx w K mg) {X : Cx} (C : Cxi X P w K mg base 3) (A : At X ["thing", "sign", "part", "look"] (defScope (top 57)) true) {ys : List Sy} {M : Mem} {k : Sy → Mem → Prop} (hT : T_is_node ys M k) :
    ExK X (startG ["thing", "sign", "part", "look"] ys) M (defBody (top 57)) { nx := fun _ M' => Fz k (.d .none) M', rt := Fz k } := by
  have s0 : Slot X 0 "thing" := A.slot (by decide +kernel)
  have s1 : Slot X 1 "sign" := A.slot (by decide +kernel)
  have s2 : Slot X 2 "part" := A.slot (by decide +kernel)
  have s3 : Slot X 3 "look" := A.slot (by decide +kernel)
  have b_isinstance := E.bf_isinstance
  have b_tuple := E.bt_tuple
  have b_len := E.bf_len
  have b_str := E.bt_str
  have g_SHAPES := E.g_SHAPES
  have b_zip := E.b_zip
  have g_LOOKS := E.g_LOOKS
  obtain ⟨e, rfl, h0, q⟩ := hT
  have l2 := E.t_LOOKS_n
  have l3 := E.t_LOOKS_x
  have l4 := E.t_LOOKS_l
  have l5 := E.t_LOOKS_w
  have a1 := a_is_number (P := P) (base := base) E
  have a2 := a_is_name (P := P) (base := base) E
  have a3 := a_is_small (P := P) (base := base) E
  have a4 := a_is_reckoned (P := P) (base := base) E
  have hit := nd_item h0
  have w1 := word_row e
  have w2 := word_fold e
  have hsl := shape_len2 e
  have l1 := E.l_SHAPES
  have t1 := shape_at E e
  have hz := shape_len e
  have hlen : (PyData.str (wordE e) :: argsE e).length = (argsE e).length + 1 := rfl
  have hal := args_len e
  rw [enc_eq]
  refine ex_open (by rfl) ?_
  repeat walk_at "sx"
  refine ca_lenT (by omega) ?_
  repeat walk_at "sx"
  refine ca_lenT (by omega) ?_
  repeat walk_at "sx"
  refine ca_lenS (by rw [hsl]; exact Nat.le_trans hal (by decide)) ?_
  repeat walk_at "sx"
  refine ifF (by rw [decide_eq_true (by omega)]; rfl) ?_
  repeat walk_at "sx"
  refine ex_for C (bnd_tup C.nd C.calm (.cons s1 (.cons s2 .nil))) (pk_zst C (A.gl (by decide +kernel)) b_zip ?_) (by intro _; rfl)
  repeat walk_at "sx"
  refine sk_tail (itms_ne e) ?_
  repeat walk_at "sx"
  refine ⟨zipL_ok, ?_⟩
  rw [zip_itms]
  refine forL_inv (fun i G M' => Stop (∃ o1 o2 o3, G = [some (.d (.tuple (.str (wordE e) :: argsE e))), o1, o2, o3] ∧ M' = M)) 0 (.mk ⟨none, none, none, rfl, rfl⟩) ?_ ?_
  · intro i y G M1 hy hP
    obtain ⟨o1, o2, o3, rfl, rfl⟩ := hP.go
    obtain ⟨it, hi, rfl⟩ := itm_get hy
    have hok := hit it (List.mem_of_getElem? hi)
    cases it
    all_goals
      dsimp only [Itm.sy]
      dsimp only [Itm.ok] at hok
      repeat walk_at "sx"
      exact .mk ⟨_, _, _, rfl, rfl⟩
  intro G M1 hP
  obtain ⟨o1, o2, o3, rfl, rfl⟩ := hP.go
  repeat walk_at "sx"
  refine ifT (by rw [w2]; rfl) ?_
  repeat walk_at "sx"
  try exact .is q
theorem a_is_node {P : Program} {w : World} {K : PySem.W.Frag} {mg : Str → Option Value} {base : Heap} (E : Fx w K mg) : Fat P w K mg base (He.ga K "is_node") 4 T_is_node := by
  obtain ⟨hm, fd, F⟩ := E.f_is_node
  refine ⟨⟨fd, ["thing"], def_okF (N := ["thing", "sign", "part", "look"]) F ⟨rfl, rfl, rfl, by decide +kernel, rfl, by decide +kernel, by decide +kernel⟩ (fun ys M k h => ?_) (fun X C A ys M k h => w_is_node E C A h), F.kp, F.bindsN fun _ _ _ _ _ _ us hl => match us, hl with | [_], _ => rfl⟩⟩
  unfold T_is_node at h
  first | (obtain ⟨_, h, _⟩ := h; rw [h]; rfl) | (obtain ⟨_, _, h, _⟩ := h; rw [h]; rfl) | (obtain ⟨_, _, _, h, _⟩ := h; rw [h]; rfl) | (obtain ⟨_, _, _, _, h, _⟩ := h; rw [h]; rfl) | (obtain ⟨_, _, _, _, _, h, _⟩ := h; rw [h]; rfl) | (obtain ⟨_, _, _, _, _, _, h, _⟩ := h; rw [h]; rfl) | (obtain ⟨_, _, _, _, _, _, _, h, _⟩ := h; rw [h]; rfl) | (obtain ⟨_, _, _, _, _, _, _, _, h, _⟩ := h; rw [h]; rfl)
theorem d_is_node {P : Program} {w : World} {K : PySem.W.Frag} {mg : Str → Option Value} {base : Heap} (E : Fx w K mg) : Dfn P w K mg base "is_node" 4 T_is_node := by
  obtain ⟨fd, ps, F, hk, hb⟩ := (a_is_node (P := P) (base := base) E).ex
  exact ⟨⟨_, fd, ps, F, E.f_is_node.1, hk, hb⟩, by decide⟩
def T_is_expression : Tr := fun ys M k => ∃ e : Ex, ys = [.d (enc e)] ∧ exOk e ∧ k (.d (.bool true)) M
theorem w_is_expression {P : Program} {w : World} {K : PySem.W.Frag} {mg : Str → Option Value} {base : Heap} (E : Fx w K mg) {X : Cx} (C : Cxi X P w K mg base 4) (A : At X ["thing", "waiting", "many", "one", "above", "part"] (defScope (top 58)) true) {ys : List Sy} {M : Mem} {k : Sy → Mem → Prop} (hT : T_is_expression ys M k) :
    ExK X (startG ["thing", "waiting", "many", "one", "above", "part"] ys) M (defBody (top 58)) { nx := fun _ M' => Fz k (.d .none) M', rt := Fz k } := by
  have s0 : Slot X 0 "thing" := A.slot (by decide +kernel)
  have s1 : Slot X 1 "waiting" := A.slot (by decide +kernel)
  have s2 : Slot X 2 "many" := A.slot (by decide +kernel)
  have s3 : Slot X 3 "one" := A.slot (by decide +kernel)
  have s4 : Slot X 4 "above" := A.slot (by decide +kernel)
  have b_len := E.bf_len
  have g_MOST_NODES := E.g_MOST_NODES
  have g_MOST_ABOVE := E.g_MOST_ABOVE
  have d_is_node := d_is_node (P := P) (w := w) (K := K) (mg := mg) (base := base) E
  have d_parts_of := d_parts_of (P := P) (w := w) (K := K) (mg := mg) (base := base) E
  obtain ⟨e, rfl, ⟨h1, h2, h3⟩, q⟩ := hT
  refine ex_open (by rfl) ?_
  repeat walk_at "sx"
  rename_i a ha
  refine ex_whileL C (fun m G M' => ∃ ws o1 o2 many, m = wsz ws ∧ G = [some (.d (enc e)), some (.v (.ref a)), some (.d (.int (many : Nat))), o1, o2, none] ∧ M' = updM M a (.lst (wsL ws)) ∧ many + wsz ws ≤ 40 ∧ ∀ p ∈ ws, wf p.1 ∧ p.2 + ht p.1 ≤ 7) (m0 := sz e) ⟨[(e, 0)], none, none, 0, rfl, rfl, rfl, ?_, ?_⟩ ?_
  · show 0 + (sz e + 0) ≤ 40
    omega
  · intro p hp
    rw [List.mem_singleton.mp hp]
    exact ⟨h1, by dsimp only; omega⟩
  rintro m G M1 ⟨ws, o1, o2, many, rfl, rfl, rfl, hm, hw⟩
  rcases List.eq_nil_or_concat ws with rfl | ⟨ws', ⟨e1, d⟩, rfl⟩
  · repeat walk_at "sx"
  · rw [List.concat_eq_append] at hm hw ⊢
    rw [wsL_app]
    rw [wsz_app] at hm ⊢
    have e2 : wsz [(e1, d)] = sz e1 := by show sz e1 + 0 = _; omega
    rw [e2] at hm ⊢
    have hs := sz_kids e1
    have hws := @ws_len ws'
    obtain ⟨hw1, hw2⟩ := hw (e1, d) (by simp)
    dsimp only at hw1 hw2
    have hnd := wf_nd hw1
    have e3 : wsL [(e1, d)] = [.d (.tuple [enc e1, .int (d : Nat)])] := rfl
    rw [e3]
    have hl : (wsL ws' ++ [Sy.d (.tuple [enc e1, .int (d : Nat)])]).length = ws'.length + 1 := by unfold wsL; simp
    have hd2 : (d : Int) ≤ 7 := by omega
    have hm2 : (many : Int) + 1 ≤ 40 := by omega
    repeat walk_at "sx"
    refine ⟨wsL ws', _, updM_same, ?_⟩
    rw [updM_updM]
    repeat walk_at "sx"
    refine ev_lc (gfE d) 5 C A (pk_sl ?_)
    repeat walk_at "sx"
    have hkl := kids_len e1
    refine ⟨⟨by rw [List.length_map]; omega, fun X' hX y hy M1 => ?_⟩, ?_⟩
    · obtain ⟨a1, _, rfl⟩ := List.mem_map.mp hy
      have A' := hX.at A
      have C' := hX.cxi C
      have s5' : Slot X' 5 "part" := A'.slot (by decide +kernel)
      have s4' : Sees X' 4 "above" := A'.sees (by decide +kernel)
      repeat walk_at "sx"
      try exact ⟨rfl, rfl⟩
      try rfl
    · rw [gfE_map]
      refine ⟨_, _, rfl, updM_same, ?_, ?_⟩
      · unfold wsL
        simp only [List.length_map]
        omega
      rw [updM_updM, ← wsL_app]
      repeat walk_at "sx"
      refine .mk (wsz (ws' ++ (kids e1).map fun a => (a, d + 1))) ?_ ⟨ws' ++ (kids e1).map fun a => (a, d + 1), some (.d (enc e1)), some (.d (.int d)), many + 1, rfl, rfl, rfl, ?_, ?_⟩
      · rw [wsz_app, wsz_kids]
        omega
      · rw [wsz_app, wsz_kids]
        omega
      · intro p hp
        rcases List.mem_append.mp hp with hp | hp
        · exact hw p (List.mem_append_left _ hp)
        · obtain ⟨a1, ha1, rfl⟩ := List.mem_map.mp hp
          have := ht_kids ha1
          exact ⟨wf_kids hw1 a1 ha1, by dsimp only; omega⟩
theorem a_is_expression {P : Program} {w : World} {K : PySem.W.Frag} {mg : Str → Option Value} {base : Heap} (E : Fx w K mg) : Fat P w K mg base (He.ga K "is_expression") 5 T_is_expression := by
  obtain ⟨hm, fd, F⟩ := E.f_is_expression
  refine ⟨⟨fd, ["thing"], def_okF (N := ["thing", "waiting", "many", "one", "above", "part"]) F ⟨rfl, rfl, rfl, by decide +kernel, rfl, by decide +kernel, by decide +kernel⟩ (fun ys M k h => ?_) (fun X C A ys M k h => w_is_expression E C A h), F.kp, F.bindsN fun _ _ _ _ _ _ us hl => match us, hl with | [_], _ => rfl⟩⟩
  unfold T_is_expression at h
  first | (obtain ⟨_, h, _⟩ := h; rw [h]; rfl) | (obtain ⟨_, _, h, _⟩ := h; rw [h]; rfl) | (obtain ⟨_, _, _, h, _⟩ := h; rw [h]; rfl) | (obtain ⟨_, _, _, _, h, _⟩ := h; rw [h]; rfl) | (obtain ⟨_, _, _, _, _, h, _⟩ := h; rw [h]; rfl) | (obtain ⟨_, _, _, _, _, _, h, _⟩ := h; rw [h]; rfl) | (obtain ⟨_, _, _, _, _, _, _, h, _⟩ := h; rw [h]; rfl) | (obtain ⟨_, _, _, _, _, _, _, _, h, _⟩ := h; rw [h]; rfl)
theorem d_is_expression {P : Program} {w : World} {K : PySem.W.Frag} {mg : Str → Option Value} {base : Heap} (E : Fx w K mg) : Dfn P w K mg base "is_expression" 5 T_is_expression := by
  obtain ⟨fd, ps, F, hk, hb⟩ := (a_is_expression (P := P) (base := base) E).ex
  exact ⟨⟨_, fd, ps, F, E.f_is_expression.1, hk, hb⟩, by decide⟩
def T_is_row : Tr := fun ys M k => ∃ e : Ex, ys = [.d (.tuple [.str "ask", enc e])] ∧ exOk e ∧ k (.d (.bool true)) M
theorem w_is_row {P : Program} {w : World} {K : PySem.W.Frag} {mg : Str → Option Value} {base : Heap} (E : Fx w K mg) {X : Cx} (C : Cxi X P w K mg base 5) (A : At X ["thing", "name", "param"] (defScope (top 60)) true) {ys : List Sy} {M : Mem} {k : Sy → Mem → Prop} (hT : T_is_row ys M k) :
    ExK X (startG ["thing", "name", "param"] ys) M (defBody (top 60)) { nx := fun _ M' => Fz k (.d .none) M', rt := Fz k } := by
  have s0 : Slot X 0 "thing" := A.slot (by decide +kernel)
  have b_isinstance := E.bf_isinstance
  have b_tuple := E.bt_tuple
  have b_len := E.bf_len
  have d_is_expression := d_is_expression (P := P) (w := w) (K := K) (mg := mg) (base := base) E
  have b_all := E.bf_all
  have d_is_name := d_is_name (P := P) (w := w) (K := K) (mg := mg) (base := base) E
  obtain ⟨e, rfl, h0, q⟩ := hT
  refine ex_open (by rfl) ?_
  repeat walk_at "sx"
theorem a_is_row {P : Program} {w : World} {K : PySem.W.Frag} {mg : Str → Option Value} {base : Heap} (E : Fx w K mg) : Fat P w K mg base (He.ga K "is_row") 6 T_is_row := by
  obtain ⟨hm, fd, F⟩ := E.f_is_row
  refine ⟨⟨fd, ["thing"], def_okF (N := ["thing", "name", "param"]) F ⟨rfl, rfl, rfl, by decide +kernel, rfl, by decide +kernel, by decide +kernel⟩ (fun ys M k h => ?_) (fun X C A ys M k h => w_is_row E C A h), F.kp, F.bindsN fun _ _ _ _ _ _ us hl => match us, hl with | [_], _ => rfl⟩⟩
  unfold T_is_row at h
  first | (obtain ⟨_, h, _⟩ := h; rw [h]; rfl) | (obtain ⟨_, _, h, _⟩ := h; rw [h]; rfl) | (obtain ⟨_, _, _, h, _⟩ := h; rw [h]; rfl) | (obtain ⟨_, _, _, _, h, _⟩ := h; rw [h]; rfl) | (obtain ⟨_, _, _, _, _, h, _⟩ := h; rw [h]; rfl) | (obtain ⟨_, _, _, _, _, _, h, _⟩ := h; rw [h]; rfl) | (obtain ⟨_, _, _, _, _, _, _, h, _⟩ := h; rw [h]; rfl) | (obtain ⟨_, _, _, _, _, _, _, _, h, _⟩ := h; rw [h]; rfl)
theorem d_is_row {P : Program} {w : World} {K : PySem.W.Frag} {mg : Str → Option Value} {base : Heap} (E : Fx w K mg) : Dfn P w K mg base "is_row" 6 T_is_row := by
  obtain ⟨fd, ps, F, hk, hb⟩ := (a_is_row (P := P) (base := base) E).ex
  exact ⟨⟨_, fd, ps, F, E.f_is_row.1, hk, hb⟩, by decide⟩
def T_checked : Tr := fun ys M k => ∃ es : List Ex, ys = [.sl ((es.map rowE).map Sy.d)] ∧ (es.length ≤ 12 ∧ ∀ e ∈ es, exOk e) ∧ k (.sl ((es.map rowE).map Sy.d)) M
theorem w_checked {P : Program} {w : World} {K : PySem.W.Frag} {mg : Str → Option Value} {base : Heap} (E : Fx w K mg) {X : Cx} (C : Cxi X P w K mg base 6) (A : At X ["thing", "number", "row", "told", "param"] (defScope (top 64)) true) {ys : List Sy} {M : Mem} {k : Sy → Mem → Prop} (hT : T_checked ys M k) :
    ExK X (startG ["thing", "number", "row", "told", "param"] ys) M (defBody (top 64)) { nx := fun _ M' => Fz k (.d .none) M', rt := Fz k } := by
  have s0 : Slot X 0 "thing" := A.slot (by decide +kernel)
  have s1 : Slot X 1 "number" := A.slot (by decide +kernel)
  have s2 : Slot X 2 "row" := A.slot (by decide +kernel)
  have s3 : Slot X 3 "told" := A.slot (by decide +kernel)
  have b_isinstance := E.bf_isinstance
  have b_list := E.bt_list
  have b_len := E.bf_len
  have g_MOST_ROWS := E.g_MOST_ROWS
  have b_enumerate := E.b_enumerate
  have d_is_row := d_is_row (P := P) (w := w) (K := K) (mg := mg) (base := base) E
  obtain ⟨es, rfl, ⟨hl, hk⟩, q⟩ := hT
  have hl2 : ((es.map rowE).map Sy.d).length ≤ 12 := by rw [List.length_map, List.length_map]; exact hl
  refine ex_open (by rfl) ?_
  repeat walk_at "sx"
  refine ex_for C (bnd_tup C.nd C.calm (.cons s1 (.cons s2 .nil))) (pk_enum C (A.gl (by decide +kernel)) b_enumerate ?_) (by intro _; rfl)
  repeat walk_at "sx"
  refine ⟨enumL_ok, forL_inv (fun i G M' => ∃ o1 o2, G = [some (.sl ((es.map rowE).map Sy.d)), o1, o2, none, none] ∧ M' = M) 0 ⟨none, none, rfl, rfl⟩ ?_ ?_⟩
  · rintro i y G M1 hy ⟨o1, o2, rfl, rfl⟩
    obtain ⟨d, hd, rfl⟩ := enumL_get hy
    obtain ⟨e, he, rfl⟩ := row_get hd
    have hok := hk e (List.mem_of_getElem? he)
    repeat walk_at "sx"
    try exact ⟨_, _, rfl, rfl⟩
    try rfl
  rintro G M1 ⟨o1, o2, rfl, rfl⟩
  repeat walk_at "sx"
  rename_i a ha
  refine ex_for C (bnd_tup C.nd C.calm (.cons s1 (.cons s2 .nil))) (pk_enum C (A.gl (by decide +kernel)) b_enumerate ?_) (by intro _; rfl)
  repeat walk_at "sx"
  refine ⟨enumL_ok, forL_inv (fun i G M' => ∃ o1 o2, G = [some (.sl ((es.map rowE).map Sy.d)), o1, o2, some (.v (.ref a)), none] ∧ M' = updM M1 a (.lst [])) 0 ⟨o1, o2, rfl, rfl⟩ ?_ ?_⟩
  · rintro i y G M2 hy ⟨o1, o2, rfl, rfl⟩
    obtain ⟨d, hd, rfl⟩ := enumL_get hy
    obtain ⟨e, he, rfl⟩ := row_get hd
    repeat walk_at "sx"
    try exact ⟨_, _, rfl, rfl⟩
    try rfl
  rintro G M2 ⟨o1, o2, rfl, rfl⟩
  repeat walk_at "sx"
  refine ex_for C (bnd_tup C.nd C.calm (.cons s1 (.cons s2 .nil))) (pk_enum C (A.gl (by decide +kernel)) b_enumerate ?_) (by intro _; rfl)
  repeat walk_at "sx"
  refine ⟨enumL_ok, forL_inv (fun i G M' => ∃ o1 o2, G = [some (.sl ((es.map rowE).map Sy.d)), o1, o2, some (.v (.ref a)), none] ∧ M' = updM M1 a (.lst [])) 0 ⟨o1, o2, rfl, rfl⟩ ?_ ?_⟩
  · rintro i y G M2 hy ⟨o1, o2, rfl, rfl⟩
    obtain ⟨d, hd, rfl⟩ := enumL_get hy
    obtain ⟨e, he, rfl⟩ := row_get hd
    repeat walk_at "sx"
    try exact ⟨_, _, rfl, rfl⟩
    try rfl
  rintro G M2 ⟨o1, o2, rfl, rfl⟩
  repeat walk_at "sx"
theorem a_checked {P : Program} {w : World} {K : PySem.W.Frag} {mg : Str → Option Value} {base : Heap} (E : Fx w K mg) : Fat P w K mg base (He.ga K "checked") 7 T_checked := by
  obtain ⟨hm, fd, F⟩ := E.f_checked
  refine ⟨⟨fd, ["thing"], def_okF (N := ["thing", "number", "row", "told", "param"]) F ⟨rfl, rfl, rfl, by decide +kernel, rfl, by decide +kernel, by decide +kernel⟩ (fun ys M k h => ?_) (fun X C A ys M k h => w_checked E C A h), F.kp, F.bindsN fun _ _ _ _ _ _ us hl => match us, hl with | [_], _ => rfl⟩⟩
  unfold T_checked at h
  first | (obtain ⟨_, h, _⟩ := h; rw [h]; rfl) | (obtain ⟨_, _, h, _⟩ := h; rw [h]; rfl) | (obtain ⟨_, _, _, h, _⟩ := h; rw [h]; rfl) | (obtain ⟨_, _, _, _, h, _⟩ := h; rw [h]; rfl) | (obtain ⟨_, _, _, _, _, h, _⟩ := h; rw [h]; rfl) | (obtain ⟨_, _, _, _, _, _, h, _⟩ := h; rw [h]; rfl) | (obtain ⟨_, _, _, _, _, _, _, h, _⟩ := h; rw [h]; rfl) | (obtain ⟨_, _, _, _, _, _, _, _, h, _⟩ := h; rw [h]; rfl)
theorem d_checked {P : Program} {w : World} {K : PySem.W.Frag} {mg : Str → Option Value} {base : Heap} (E : Fx w K mg) : Dfn P w K mg base "checked" 7 T_checked := by
  obtain ⟨fd, ps, F, hk, hb⟩ := (a_checked (P := P) (base := base) E).ex
  exact ⟨⟨_, fd, ps, F, E.f_checked.1, hk, hb⟩, by decide⟩
def T_reckoned : Tr := fun ys M k => ∃ (w : Str) (a b : Int), ys = [.d (.str w), .d (.int a), .d (.int b)] ∧ (wordOk w ∧ mulOk a) ∧ k (.d (.int (rkv w a b))) M
theorem w_reckoned {P : Program} {w : World} {K : PySem.W.Frag} {mg : Str → Option Value} {base : Heap} (E : Fx w K mg) {X : Cx} (C : Cxi X P w K mg base 0) (A : At X ["word", "one", "other"] (defScope (top 70)) true) {ys : List Sy} {M : Mem} {k : Sy → Mem → Prop} (hT : T_reckoned ys M k) :
    ExK X (startG ["word", "one", "other"] ys) M (defBody (top 70)) { nx := fun _ M' => Fz k (.d .none) M', rt := Fz k } := by
  have s0 : Slot X 0 "word" := A.slot (by decide +kernel)
  have s1 : Slot X 1 "one" := A.slot (by decide +kernel)
  have s2 : Slot X 2 "other" := A.slot (by decide +kernel)
  have g_LARGE_runs := E.g_LARGE_runs
  have b_int := E.bt_int
  obtain ⟨w1, a, b, rfl, ⟨hw, hb⟩, q⟩ := hT
  have hc : CMul a b := .inl hb
  rcases hw with rfl | rfl | rfl | rfl | rfl
  · rw [rkv_plus] at q
    refine ex_open (by rfl) ?_
    repeat walk_at "sx"
  · rw [rkv_minus] at q
    refine ex_open (by rfl) ?_
    repeat walk_at "sx"
  · rw [rkv_times] at q
    refine ex_open (by rfl) ?_
    repeat walk_at "sx"
  · rw [rkv_less] at q
    refine ex_open (by rfl) ?_
    repeat walk_at "sx"
  · rw [rkv_same] at q
    refine ex_open (by rfl) ?_
    repeat walk_at "sx"
theorem a_reckoned {P : Program} {w : World} {K : PySem.W.Frag} {mg : Str → Option Value} {base : Heap} (E : Fx w K mg) : Fat P w K mg base (He.ga K "reckoned") 1 T_reckoned := by
  obtain ⟨hm, fd, F⟩ := E.f_reckoned
  refine ⟨⟨fd, ["word", "one", "other"], def_okF (N := ["word", "one", "other"]) F ⟨rfl, rfl, rfl, by decide +kernel, rfl, by decide +kernel, by decide +kernel⟩ (fun ys M k h => ?_) (fun X C A ys M k h => w_reckoned E C A h), F.kp, F.bindsN fun _ _ _ _ _ _ us hl => match us, hl with | [_, _, _], _ => rfl⟩⟩
  unfold T_reckoned at h
  first | (obtain ⟨_, h, _⟩ := h; rw [h]; rfl) | (obtain ⟨_, _, h, _⟩ := h; rw [h]; rfl) | (obtain ⟨_, _, _, h, _⟩ := h; rw [h]; rfl) | (obtain ⟨_, _, _, _, h, _⟩ := h; rw [h]; rfl) | (obtain ⟨_, _, _, _, _, h, _⟩ := h; rw [h]; rfl) | (obtain ⟨_, _, _, _, _, _, h, _⟩ := h; rw [h]; rfl) | (obtain ⟨_, _, _, _, _, _, _, h, _⟩ := h; rw [h]; rfl) | (obtain ⟨_, _, _, _, _, _, _, _, h, _⟩ := h; rw [h]; rfl)
theorem d_reckoned {P : Program} {w : World} {K : PySem.W.Frag} {mg : Str → Option Value} {base : Heap} (E : Fx w K mg) : Dfn P w K mg base "reckoned" 1 T_reckoned := by
  obtain ⟨fd, ps, F, hk, hb⟩ := (a_reckoned (P := P) (base := base) E).ex
  exact ⟨⟨_, fd, ps, F, E.f_reckoned.1, hk, hb⟩, by decide⟩
def T_with_value : Tr := fun ys M k => ∃ (nn : Nat) (mm : Key → Option PyData) (x : Str) (v : PyData), ys = [.dk nn mm, .d (.str x), .d v] ∧ nn ≤ 900 ∧ k (.dk (nn + 1) (putM mm (.inr x) v)) M
theorem w_with_value {P : Program} {w : World} {K : PySem.W.Frag} {mg : Str → Option Value} {base : Heap} (E : Fx w K mg) {X : Cx} (C : Cxi X P w K mg base 0) (A : At X ["scope", "name", "value"] (defScope (top 75)) true) {ys : List Sy} {M : Mem} {k : Sy → Mem → Prop} (hT : T_with_value ys M k) :
    ExK X (startG ["scope", "name", "value"] ys) M (defBody (top 75)) { nx := fun _ M' => Fz k (.d .none) M', rt := Fz k } := by
  have s0 : Slot X 0 "scope" := A.slot (by decide +kernel)
  have s1 : Slot X 1 "name" := A.slot (by decide +kernel)
  have s2 : Slot X 2 "value" := A.slot (by decide +kernel)
  have b_dict := E.bt_dict
  obtain ⟨nn, mm, x, v, rfl, hn, q⟩ := hT
  refine ex_open (by rfl) ?_
  repeat walk_at "sx"
  rename_i a ha
  refine .mk ⟨_, _, _, _, _, rfl, rfl, rfl, updM_same, by omega, ?_⟩
  rw [updM_updM]
  repeat walk_at "sx"
  exact .dK ha (.is q)
theorem a_with_value {P : Program} {w : World} {K : PySem.W.Frag} {mg : Str → Option Value} {base : Heap} (E : Fx w K mg) : Fat P w K mg base (He.ga K "with_value") 1 T_with_value := by
  obtain ⟨hm, fd, F⟩ := E.f_with_value
  refine ⟨⟨fd, ["scope", "name", "value"], def_okF (N := ["scope", "name", "value"]) F ⟨rfl, rfl, rfl, by decide +kernel, rfl, by decide +kernel, by decide +kernel⟩ (fun ys M k h => ?_) (fun X C A ys M k h => w_with_value E C A h), F.kp, F.bindsN fun _ _ _ _ _ _ us hl => match us, hl with | [_, _, _], _ => rfl⟩⟩
  unfold T_with_value at h
  first | (obtain ⟨_, h, _⟩ := h; rw [h]; rfl) | (obtain ⟨_, _, h, _⟩ := h; rw [h]; rfl) | (obtain ⟨_, _, _, h, _⟩ := h; rw [h]; rfl) | (obtain ⟨_, _, _, _, h, _⟩ := h; rw [h]; rfl) | (obtain ⟨_, _, _, _, _, h, _⟩ := h; rw [h]; rfl) | (obtain ⟨_, _, _, _, _, _, h, _⟩ := h; rw [h]; rfl) | (obtain ⟨_, _, _, _, _, _, _, h, _⟩ := h; rw [h]; rfl) | (obtain ⟨_, _, _, _, _, _, _, _, h, _⟩ := h; rw [h]; rfl)
theorem d_with_value {P : Program} {w : World} {K : PySem.W.Frag} {mg : Str → Option Value} {base : Heap} (E : Fx w K mg) : Dfn P w K mg base "with_value" 1 T_with_value := by
  obtain ⟨fd, ps, F, hk, hb⟩ := (a_with_value (P := P) (base := base) E).ex
  exact ⟨⟨_, fd, ps, F, E.f_with_value.1, hk, hb⟩, by decide⟩
def T_with_name : Tr := fun ys M k => ∃ (nn : Nat) (mm : Key → Option PyData) (x : Str) (v : PyData), ys = [.dk nn mm, .d (.str x), .d v] ∧ nn ≤ 900 ∧ k (.dk (nn + 1) (putM mm (.inr x) v)) M
theorem w_with_name {P : Program} {w : World} {K : PySem.W.Frag} {mg : Str → Option Value} {base : Heap} (E : Fx w K mg) {X : Cx} (C : Cxi X P w K mg base 0) (A : At X ["scope", "name", "kind", "found"] (defScope (top 113)) true) {ys : List Sy} {M : Mem} {k : Sy → Mem → Prop} (hT : T_with_name ys M k) :
    ExK X (startG ["scope", "name", "kind", "found"] ys) M (defBody (top 113)) { nx := fun _ M' => Fz k (.d .none) M', rt := Fz k } := by
  have s0 : Slot X 0 "scope" := A.slot (by decide +kernel)
  have s1 : Slot X 1 "name" := A.slot (by decide +kernel)
  have s2 : Slot X 2 "kind" := A.slot (by decide +kernel)
  have s3 : Slot X 3 "found" := A.slot (by decide +kernel)
  have b_dict := E.bt_dict
  obtain ⟨nn, mm, x, v, rfl, hn, q⟩ := hT
  refine ex_open (by rfl) ?_
  repeat walk_at "sx"
  rename_i a ha
  refine .mk ⟨_, _, _, _, _, rfl, rfl, rfl, updM_same, by omega, ?_⟩
  rw [updM_updM]
  repeat walk_at "sx"
  exact .dK ha (.is q)
theorem a_with_name {P : Program} {w : World} {K : PySem.W.Frag} {mg : Str → Option Value} {base : Heap} (E : Fx w K mg) : Fat P w K mg base (He.ga K "with_name") 1 T_with_name := by
  obtain ⟨hm, fd, F⟩ := E.f_with_name
  refine ⟨⟨fd, ["scope", "name", "kind"], def_okF (N := ["scope", "name", "kind", "found"]) F ⟨rfl, rfl, rfl, by decide +kernel, rfl, by decide +kernel, by decide +kernel⟩ (fun ys M k h => ?_) (fun X C A ys M k h => w_with_name E C A h), F.kp, F.bindsN fun _ _ _ _ _ _ us hl => match us, hl with | [_, _, _], _ => rfl⟩⟩
  unfold T_with_name at h
  first | (obtain ⟨_, h, _⟩ := h; rw [h]; rfl) | (obtain ⟨_, _, h, _⟩ := h; rw [h]; rfl) | (obtain ⟨_, _, _, h, _⟩ := h; rw [h]; rfl) | (obtain ⟨_, _, _, _, h, _⟩ := h; rw [h]; rfl) | (obtain ⟨_, _, _, _, _, h, _⟩ := h; rw [h]; rfl) | (obtain ⟨_, _, _, _, _, _, h, _⟩ := h; rw [h]; rfl) | (obtain ⟨_, _, _, _, _, _, _, h, _⟩ := h; rw [h]; rfl) | (obtain ⟨_, _, _, _, _, _, _, _, h, _⟩ := h; rw [h]; rfl)
theorem d_with_name {P : Program} {w : World} {K : PySem.W.Frag} {mg : Str → Option Value} {base : Heap} (E : Fx w K mg) : Dfn P w K mg base "with_name" 1 T_with_name := by
  obtain ⟨fd, ps, F, hk, hb⟩ := (a_with_name (P := P) (base := base) E).ex
  exact ⟨⟨_, fd, ps, F, E.f_with_name.1, hk, hb⟩, by decide⟩
def T_heaviness : Tr := fun ys M k => ∃ i : Int, ys = [.d (.int i)] ∧ k (.d (.int 1)) M
theorem w_heaviness {P : Program} {w : World} {K : PySem.W.Frag} {mg : Str → Option Value} {base : Heap} (E : Fx w K mg) {X : Cx} (C : Cxi X P w K mg base 1) (A : At X ["value", "part"] (defScope (top 76)) true) {ys : List Sy} {M : Mem} {k : Sy → Mem → Prop} (hT : T_heaviness ys M k) :
    ExK X (startG ["value", "part"] ys) M (defBody (top 76)) { nx := fun _ M' => Fz k (.d .none) M', rt := Fz k } := by
  have s0 : Slot X 0 "value" := A.slot (by decide +kernel)
  have d_is_whole := d_is_whole (P := P) (w := w) (K := K) (mg := mg) (base := base) E
  have b_sum := E.bf_sum
  obtain ⟨i, rfl, q⟩ := hT
  refine ex_open (by rfl) ?_
  repeat walk_at "sx"
theorem a_heaviness {P : Program} {w : World} {K : PySem.W.Frag} {mg : Str → Option Value} {base : Heap} (E : Fx w K mg) : Fat P w K mg base (He.ga K "heaviness") 2 T_heaviness := by
  obtain ⟨hm, fd, F⟩ := E.f_heaviness
  refine ⟨⟨fd, ["value"], def_okF (N := ["value", "part"]) F ⟨rfl, rfl, rfl, by decide +kernel, rfl, by decide +kernel, by decide +kernel⟩ (fun ys M k h => ?_) (fun X C A ys M k h => w_heaviness E C A h), F.kp, F.bindsN fun _ _ _ _ _ _ us hl => match us, hl with | [_], _ => rfl⟩⟩
  unfold T_heaviness at h
  first | (obtain ⟨_, h, _⟩ := h; rw [h]; rfl) | (obtain ⟨_, _, h, _⟩ := h; rw [h]; rfl) | (obtain ⟨_, _, _, h, _⟩ := h; rw [h]; rfl) | (obtain ⟨_, _, _, _, h, _⟩ := h; rw [h]; rfl) | (obtain ⟨_, _, _, _, _, h, _⟩ := h; rw [h]; rfl) | (obtain ⟨_, _, _, _, _, _, h, _⟩ := h; rw [h]; rfl) | (obtain ⟨_, _, _, _, _, _, _, h, _⟩ := h; rw [h]; rfl) | (obtain ⟨_, _, _, _, _, _, _, _, h, _⟩ := h; rw [h]; rfl)
theorem d_heaviness {P : Program} {w : World} {K : PySem.W.Frag} {mg : Str → Option Value} {base : Heap} (E : Fx w K mg) : Dfn P w K mg base "heaviness" 2 T_heaviness := by
  obtain ⟨fd, ps, F, hk, hb⟩ := (a_heaviness (P := P) (base := base) E).ex
  exact ⟨⟨_, fd, ps, F, E.f_heaviness.1, hk, hb⟩, by decide⟩
def T_Found_kind_at (K : PySem.W.Frag) : Tr := fun ys M k => Stop (∃ (fo : Addr) (r c : Int) (mm : List Key → Option PyData) (d : PyData), ys = [.v (.ref fo), .d (.int r), .d (.int c)] ∧ (FoundAt K M fo mm ∧ mm [.inl r, .inl c] = some d) ∧ k (.d d) M)
theorem w_Found_kind_at {P : Program} {w : World} {K : PySem.W.Frag} {mg : Str → Option Value} {base : Heap} (E : Fx w K mg) {X : Cx} (C : Cxi X P w K mg base 0) (A : At X ["self", "row", "node"] (defScope (inClass (top 142) 3)) true) {ys : List Sy} {M : Mem} {k : Sy → Mem → Prop} (hT : T_Found_kind_at K ys M k) :
    ExK X (startG ["self", "row", "node"] ys) M (defBody (inClass (top 142) 3)) { nx := fun _ M' => Fz k (.d .none) M', rt := Fz k } := by
  have s0 : Slot X 0 "self" := A.slot (by decide +kernel)
  have s1 : Slot X 1 "row" := A.slot (by decide +kernel)
  have s2 : Slot X 2 "node" := A.slot (by decide +kernel)
  obtain ⟨fo, r, c, mm, d, rfl, ⟨⟨kd, dx, fs, nn, h1, h2, h5, h3⟩, h4⟩, q⟩ := hT.go
  refine ex_open (by rfl) ?_
  repeat walk_at "sx"
  refine .mk ⟨_, _, _, _, _, rfl, h1, E.c_Found.2.2, E.n_Found_kinds, h2, ?_⟩
  repeat walk_at "sx"
  exact .mk ⟨[.inl r, .inl c], _, _, _, rfl, Nat.le_of_ble_eq_true rfl, h3, h4, .is q⟩
theorem m_Found_kind_at {P : Program} {w : World} {K : PySem.W.Frag} {mg : Str → Option Value} {base : Heap} (E : Fx w K mg) : Mfn P w K mg base (He.ga K "Found") "kind_at" 1 (T_Found_kind_at K) := by
  obtain ⟨hm, fd, F⟩ := E.m_Found_kind_at
  refine ⟨⟨_, fd, ["self", "row", "node"], def_okF (N := ["self", "row", "node"]) F ⟨rfl, rfl, rfl, by decide +kernel, rfl, by decide +kernel, by decide +kernel⟩ (fun ys M k h => ?_) (fun X C A ys M k h => w_Found_kind_at E C A h), hm, F.bindsN fun _ _ _ _ _ _ us hl => match us, hl with | [_, _, _], _ => rfl⟩, E.c_Found.2.2⟩
  replace h := Stop.go h
  first | (obtain ⟨h, _⟩ := h; rw [h]; rfl) | (obtain ⟨_, h, _⟩ := h; rw [h]; rfl) | (obtain ⟨_, _, h, _⟩ := h; rw [h]; rfl) | (obtain ⟨_, _, _, h, _⟩ := h; rw [h]; rfl) | (obtain ⟨_, _, _, _, h, _⟩ := h; rw [h]; rfl) | (obtain ⟨_, _, _, _, _, h, _⟩ := h; rw [h]; rfl) | (obtain ⟨_, _, _, _, _, _, h, _⟩ := h; rw [h]; rfl) | (obtain ⟨_, _, _, _, _, _, _, h, _⟩ := h; rw [h]; rfl) | (obtain ⟨_, _, _, _, _, _, _, _, h, _⟩ := h; rw [h]; rfl) | (obtain ⟨_, _, _, _, _, _, _, _, _, h, _⟩ := h; rw [h]; rfl) | (obtain ⟨_, _, _, _, _, _, _, _, _, _, h, _⟩ := h; rw [h]; rfl) | (obtain ⟨_, _, _, _, _, _, _, _, _, _, _, h, _⟩ := h; rw [h]; rfl) | (obtain ⟨_, _, _, _, _, _, _, _, _, _, _, _, h, _⟩ := h; rw [h]; rfl)
def T_coded (K : PySem.W.Frag) (h : Nat) : Tr := fun ys M k => ∃ (fo : Addr) (r : Int) (e : Ex) (c : Int), ys = [.v (.ref fo), .d (.int r), .d (enc e), .d (.int c)] ∧ (ht e ≤ h ∧ ∃ mm, FoundAt K M fo mm ∧ Kn mm r c e) ∧ k (.d (.tuple [code e, .int (c + (sz e : Nat))])) M
theorem w_coded {P : Program} {w : World} {K : PySem.W.Frag} {mg : Str → Option Value} {base : Heap} (E : Fx w K mg) {h : Nat} (ih : h = 0 ∨ Dfn P w K mg base "coded" (h + 1) (T_coded K (h - 1))) {X : Cx} (C : Cxi X P w K mg base (h + 1)) (A : At X ["found", "row", "expression", "node", "parts", "behind", "sign", "part"] (defScope (top 74)) true) {ys : List Sy} {M : Mem} {k : Sy → Mem → Prop} (hT : T_coded K h ys M k) :
    ExK X (startG ["found", "row", "expression", "node", "parts", "behind", "sign", "part"] ys) M (defBody (top 74)) { nx := fun _ M' => Fz k (.d .none) M', rt := Fz k } := by
  have s0 : Slot X 0 "found" := A.slot (by decide +kernel)
  have s1 : Slot X 1 "row" := A.slot (by decide +kernel)
  have s2 : Slot X 2 "expression" := A.slot (by decide +kernel)
  have s3 : Slot X 3 "node" := A.slot (by decide +kernel)
  have s4 : Slot X 4 "parts" := A.slot (by decide +kernel)
  have s5 : Slot X 5 "behind" := A.slot (by decide +kernel)
  have s6 : Slot X 6 "sign" := A.slot (by decide +kernel)
  have s7 : Slot X 7 "part" := A.slot (by decide +kernel)
  have b_zip := E.b_zip
  have g_SHAPES := E.g_SHAPES
  have b_tuple := E.bt_tuple
  obtain ⟨fo, r, e, c0, rfl, ⟨hh, mm, hF, hK⟩, q⟩ := hT
  have mk := m_Found_kind_at (P := P) (base := base) E
  have w1 := word_call e
  have w2 := word_turn e
  rw [show c0 + ((sz e : Nat) : Int) = c0 + 1 + (szs (itms e) : Nat) by rw [sz_itms]; omega] at q
  have l1 := E.l_SHAPES
  have t1 := shape_at E e
  have hz := shape_len e
  have hlen : (PyData.str (wordE e) :: argsE e).length = (argsE e).length + 1 := rfl
  have hal := args_len e
  rw [enc_eq]
  refine ex_open (by rfl) ?_
  repeat walk_at "sx"
  rename_i a1 ha1
  refine ex_for C (bnd_tup C.nd C.calm (.cons s6 (.cons s7 .nil))) (pk_zst C (A.gl (by decide +kernel)) b_zip ?_) (by intro _; rfl)
  repeat walk_at "sx"
  refine sk_tail (itms_ne e) ?_
  repeat walk_at "sx"
  refine ⟨zipL_ok, ?_⟩
  rw [zip_itms]
  refine forL_inv (fun i G M' => Stop (∃ o6 o7, G = [some (.v (.ref fo)), some (.d (.int r)), some (.d (.tuple (.str (wordE e) :: argsE e))), some (.d (.int c0)), some (.v (.ref a1)), some (.d (.int (c0 + 1 + (szs ((itms e).take i) : Nat)))), o6, o7] ∧ M' = updM M a1 (.lst (.d (.str (wordE e)) :: (((itms e).take i).map Itm.out).map Sy.d)))) 0 (.mk ⟨none, none, ?_, rfl⟩) ?_ ?_
  · have e0 : c0 + 1 + (szs ((itms e).take 0) : Nat) = c0 + 1 := by simp [szs]
    rw [e0]
  · intro i y G M1 hy hP
    obtain ⟨o6, o7, rfl, rfl⟩ := hP.go
    obtain ⟨it, hi, rfl⟩ := itm_get hy
    rw [Nat.zero_add]
    have hl : (Sy.d (.str (wordE e)) :: (((itms e).take i).map Itm.out).map Sy.d).length ≤ 100000 := by
      have h1 := itms_len e
      rw [List.length_cons, List.length_map, List.length_map, List.length_take]
      omega
    have hn := szs_next hi
    have ho := outs_next (z := Sy.d (.str (wordE e))) hi
    cases it
    case e a =>
      obtain ⟨kk, hha⟩ := kn_item hK i a hi
      have dd := ih.resolve_left (by omega)
      have hn2 : c0 + 1 + (szs ((itms e).take i) : Nat) + (sz a : Nat) = c0 + 1 + (szs ((itms e).take (i + 1)) : Nat) := by
        rw [hn]
        simp [Itm.kid]
        omega
      dsimp only [Itm.sy]
      repeat walk_at "sx"
      refine ⟨⟨by omega, mm, hF.less (.upd ha1), kk⟩, ?_⟩
      rw [hn2]
      repeat walk_at "sx"
      exact .mk ⟨_, _, rfl, updM_updM.trans (congrArg (fun z => updM M a1 (.lst z)) ho)⟩
    all_goals
      have hn2 : c0 + 1 + (szs ((itms e).take i) : Nat) = c0 + 1 + (szs ((itms e).take (i + 1)) : Nat) := by
        rw [hn]
        simp [Itm.kid]
      rw [hn2]
      dsimp only [Itm.sy]
      repeat walk_at "sx"
      exact .mk ⟨_, _, rfl, updM_updM.trans (congrArg (fun z => updM M a1 (.lst z)) ho)⟩
  intro G M1 hP
  obtain ⟨o6, o7, hG, hM⟩ := hP.go
  rw [Nat.zero_add, List.length_map, List.take_length] at hG hM
  subst hG hM
  rcases mi_or e with ⟨l, a, rfl⟩ | ⟨w3, hcode⟩
  · obtain ⟨k1, k2⟩ := hK
    have hF2 := fun t => hF.less (M2 := updM M a1 t) (.upd ha1)
    obtain ⟨kd, dx, fs, nn, h1, h2, h5, h3⟩ := hF
    simp only [wordE, argsE, itms, List.map, Itm.arg, Itm.out]
    repeat walk_at "sx"
    refine .mk ⟨_, _, _, rfl, (by rw [updM_ne (neM h1 ha1)]; exact h1), h5, ?_⟩
    repeat walk_at "sx"
    refine .mk ⟨fo, r, c0, mm, _, rfl, ⟨hF2 _, k1⟩, ?_⟩
    dsimp only [encK]
    repeat walk_at "sx"
    refine ca_tupM (ds := [.str "mirror", lenD l, code a]) (by exact List.cons_ne_nil _ _) updM_same ?_
    repeat walk_at "sx"
    rw [updM_updM]
    exact .drop ha1 (.is q)
  · rw [hcode] at q
    repeat walk_at "sx"
    refine ca_tupM (ds := .str (wordE e) :: (itms e).map Itm.out) (by exact List.cons_ne_nil _ _) updM_same ?_
    repeat walk_at "sx"
    try exact .drop ha1 (.is q)
theorem d1_coded {P : Program} {w : World} {K : PySem.W.Frag} {mg : Str → Option Value} {base : Heap} (E : Fx w K mg) {h : Nat} (ih : h = 0 ∨ Dfn P w K mg base "coded" (h + 1) (T_coded K (h - 1))) : Dfn P w K mg base "coded" (h + 1 + 1) (T_coded K h) := by
  obtain ⟨hm, fd, F⟩ := E.f_coded
  refine ⟨⟨_, fd, ["found", "row", "expression", "node"], def_okF (N := ["found", "row", "expression", "node", "parts", "behind", "sign", "part"]) F ⟨rfl, rfl, rfl, by decide +kernel, rfl, by decide +kernel, by decide +kernel⟩ (fun ys M k h => ?_) (fun X C A ys M k h => w_coded E ih C A h), hm, F.kp, F.bindsN fun _ _ _ _ _ _ us hl => match us, hl with | [_, _, _, _], _ => rfl⟩, by decide⟩
  unfold T_coded at h
  first | (obtain ⟨h, _⟩ := h; rw [h]; rfl) | (obtain ⟨_, h, _⟩ := h; rw [h]; rfl) | (obtain ⟨_, _, h, _⟩ := h; rw [h]; rfl) | (obtain ⟨_, _, _, h, _⟩ := h; rw [h]; rfl) | (obtain ⟨_, _, _, _, h, _⟩ := h; rw [h]; rfl) | (obtain ⟨_, _, _, _, _, h, _⟩ := h; rw [h]; rfl) | (obtain ⟨_, _, _, _, _, _, h, _⟩ := h; rw [h]; rfl) | (obtain ⟨_, _, _, _, _, _, _, h, _⟩ := h; rw [h]; rfl) | (obtain ⟨_, _, _, _, _, _, _, _, h, _⟩ := h; rw [h]; rfl) | (obtain ⟨_, _, _, _, _, _, _, _, _, h, _⟩ := h; rw [h]; rfl) | (obtain ⟨_, _, _, _, _, _, _, _, _, _, h, _⟩ := h; rw [h]; rfl) | (obtain ⟨_, _, _, _, _, _, _, _, _, _, _, h, _⟩ := h; rw [h]; rfl) | (obtain ⟨_, _, _, _, _, _, _, _, _, _, _, _, h, _⟩ := h; rw [h]; rfl)
theorem d_coded {P : Program} {w : World} {K : PySem.W.Frag} {mg : Str → Option Value} {base : Heap} (E : Fx w K mg) : ∀ h : Nat, Dfn P w K mg base "coded" (h + 2) (T_coded K h)
  | 0 => d1_coded E (.inl rfl)
  | h + 1 => d1_coded E (.inr (d_coded E h))
def T_number_come : Tr := fun ys M k => Stop (∃ (ro : Addr) (n : Int) (nn : Nat) (sm nm : Key → Option PyData), ys = [.v (.ref ro), .d (.tuple [.str "number", .int n]), .dk nn sm, .dk 0 nm] ∧ k (.d (.int n)) M)
theorem w_number_come {P : Program} {w : World} {K : PySem.W.Frag} {mg : Str → Option Value} {base : Heap} (E : Fx w K mg) {X : Cx} (C : Cxi X P w K mg base 0) (A : At X ["run", "code", "scope", "numbers"] (defScope (top 77)) true) {ys : List Sy} {M : Mem} {k : Sy → Mem → Prop} (hT : T_number_come ys M k) :
    ExK X (startG ["run", "code", "scope", "numbers"] ys) M (defBody (top 77)) { nx := fun _ M' => Fz k (.d .none) M', rt := Fz k } := by
  have s0 : Slot X 0 "run" := A.slot (by decide +kernel)
  have s1 : Slot X 1 "code" := A.slot (by decide +kernel)
  have s2 : Slot X 2 "scope" := A.slot (by decide +kernel)
  have s3 : Slot X 3 "numbers" := A.slot (by decide +kernel)
  obtain ⟨ro, n, nn, sm, nm, rfl, q⟩ := hT.go
  refine ex_open (by rfl) ?_
  repeat walk_at "sx"
theorem a_number_come {P : Program} {w : World} {K : PySem.W.Frag} {mg : Str → Option Value} {base : Heap} (E : Fx w K mg) : Fat P w K mg base (He.ga K "number_come") 1 T_number_come := by
  obtain ⟨hm, fd, F⟩ := E.f_number_come
  refine ⟨⟨fd, ["run", "code", "scope", "numbers"], def_okF (N := ["run", "code", "scope", "numbers"]) F ⟨rfl, rfl, rfl, by decide +kernel, rfl, by decide +kernel, by decide +kernel⟩ (fun ys M k h => ?_) (fun X C A ys M k h => w_number_come E C A h), F.kp, F.bindsN fun _ _ _ _ _ _ us hl => match us, hl with | [_, _, _, _], _ => rfl⟩⟩
  replace h := Stop.go h
  first | (obtain ⟨_, h, _⟩ := h; rw [h]; rfl) | (obtain ⟨_, _, h, _⟩ := h; rw [h]; rfl) | (obtain ⟨_, _, _, h, _⟩ := h; rw [h]; rfl) | (obtain ⟨_, _, _, _, h, _⟩ := h; rw [h]; rfl) | (obtain ⟨_, _, _, _, _, h, _⟩ := h; rw [h]; rfl) | (obtain ⟨_, _, _, _, _, _, h, _⟩ := h; rw [h]; rfl) | (obtain ⟨_, _, _, _, _, _, _, h, _⟩ := h; rw [h]; rfl) | (obtain ⟨_, _, _, _, _, _, _, _, h, _⟩ := h; rw [h]; rfl)
theorem d_number_come {P : Program} {w : World} {K : PySem.W.Frag} {mg : Str → Option Value} {base : Heap} (E : Fx w K mg) : Dfn P w K mg base "number_come" 1 T_number_come := by
  obtain ⟨fd, ps, F, hk, hb⟩ := (a_number_come (P := P) (base := base) E).ex
  exact ⟨⟨_, fd, ps, F, E.f_number_come.1, hk, hb⟩, by decide⟩
def T_name_come : Tr := fun ys M k => Stop (∃ (ro : Addr) (x : Str) (v : Int) (nn : Nat) (sm nm : Key → Option PyData), ys = [.v (.ref ro), .d (.tuple [.str "name", .str x]), .dk nn sm, .dk 0 nm] ∧ sm (.inr x) = some (.int v) ∧ k (.d (.int v)) M)
theorem w_name_come {P : Program} {w : World} {K : PySem.W.Frag} {mg : Str → Option Value} {base : Heap} (E : Fx w K mg) {X : Cx} (C : Cxi X P w K mg base 0) (A : At X ["run", "code", "scope", "numbers"] (defScope (top 78)) true) {ys : List Sy} {M : Mem} {k : Sy → Mem → Prop} (hT : T_name_come ys M k) :
    ExK X (startG ["run", "code", "scope", "numbers"] ys) M (defBody (top 78)) { nx := fun _ M' => Fz k (.d .none) M', rt := Fz k } := by
  have s0 : Slot X 0 "run" := A.slot (by decide +kernel)
  have s1 : Slot X 1 "code" := A.slot (by decide +kernel)
  have s2 : Slot X 2 "scope" := A.slot (by decide +kernel)
  have s3 : Slot X 3 "numbers" := A.slot (by decide +kernel)
  obtain ⟨ro, x, v, nn, sm, nm, rfl, h1, q⟩ := hT.go
  refine ex_open (by rfl) ?_
  repeat walk_at "sx"
  refine it_dkS C h1 ?_
  repeat walk_at "sx"
theorem a_name_come {P : Program} {w : World} {K : PySem.W.Frag} {mg : Str → Option Value} {base : Heap} (E : Fx w K mg) : Fat P w K mg base (He.ga K "name_come") 1 T_name_come := by
  obtain ⟨hm, fd, F⟩ := E.f_name_come
  refine ⟨⟨fd, ["run", "code", "scope", "numbers"], def_okF (N := ["run", "code", "scope", "numbers"]) F ⟨rfl, rfl, rfl, by decide +kernel, rfl, by decide +kernel, by decide +kernel⟩ (fun ys M k h => ?_) (fun X C A ys M k h => w_name_come E C A h), F.kp, F.bindsN fun _ _ _ _ _ _ us hl => match us, hl with | [_, _, _, _], _ => rfl⟩⟩
  replace h := Stop.go h
  first | (obtain ⟨_, h, _⟩ := h; rw [h]; rfl) | (obtain ⟨_, _, h, _⟩ := h; rw [h]; rfl) | (obtain ⟨_, _, _, h, _⟩ := h; rw [h]; rfl) | (obtain ⟨_, _, _, _, h, _⟩ := h; rw [h]; rfl) | (obtain ⟨_, _, _, _, _, h, _⟩ := h; rw [h]; rfl) | (obtain ⟨_, _, _, _, _, _, h, _⟩ := h; rw [h]; rfl) | (obtain ⟨_, _, _, _, _, _, _, h, _⟩ := h; rw [h]; rfl) | (obtain ⟨_, _, _, _, _, _, _, _, h, _⟩ := h; rw [h]; rfl)
theorem d_name_come {P : Program} {w : World} {K : PySem.W.Frag} {mg : Str → Option Value} {base : Heap} (E : Fx w K mg) : Dfn P w K mg base "name_come" 1 T_name_come := by
  obtain ⟨fd, ps, F, hk, hb⟩ := (a_name_come (P := P) (base := base) E).ex
  exact ⟨⟨_, fd, ps, F, E.f_name_come.1, hk, hb⟩, by decide⟩
def T_length_come : Tr := fun ys M k => Stop (∃ (ro : Addr) (z : PyData) (n : Int) (ds : List PyData) (nn : Nat) (sm nm : Key → Option PyData), ys = [.v (.ref ro), .d (.tuple (z :: lenD n :: ds)), .dk nn sm, .dk 0 nm] ∧ k (.d (.int n)) M)
theorem w_length_come {P : Program} {w : World} {K : PySem.W.Frag} {mg : Str → Option Value} {base : Heap} (E : Fx w K mg) {X : Cx} (C : Cxi X P w K mg base 1) (A : At X ["run", "code", "scope", "numbers"] (defScope (top 79)) true) {ys : List Sy} {M : Mem} {k : Sy → Mem → Prop} (hT : T_length_come ys M k) :
    ExK X (startG ["run", "code", "scope", "numbers"] ys) M (defBody (top 79)) { nx := fun _ M' => Fz k (.d .none) M', rt := Fz k } := by
  have s0 : Slot X 0 "run" := A.slot (by decide +kernel)
  have s1 : Slot X 1 "code" := A.slot (by decide +kernel)
  have s2 : Slot X 2 "scope" := A.slot (by decide +kernel)
  have s3 : Slot X 3 "numbers" := A.slot (by decide +kernel)
  have d_worth := d_worth (P := P) (w := w) (K := K) (mg := mg) (base := base) E
  obtain ⟨ro, z, n, ds, nn, sm, nm, rfl, q⟩ := hT.go
  refine ex_open (by rfl) ?_
  repeat walk_at "sx"
theorem a_length_come {P : Program} {w : World} {K : PySem.W.Frag} {mg : Str → Option Value} {base : Heap} (E : Fx w K mg) : Fat P w K mg base (He.ga K "length_come") 2 T_length_come := by
  obtain ⟨hm, fd, F⟩ := E.f_length_come
  refine ⟨⟨fd, ["run", "code", "scope", "numbers"], def_okF (N := ["run", "code", "scope", "numbers"]) F ⟨rfl, rfl, rfl, by decide +kernel, rfl, by decide +kernel, by decide +kernel⟩ (fun ys M k h => ?_) (fun X C A ys M k h => w_length_come E C A h), F.kp, F.bindsN fun _ _ _ _ _ _ us hl => match us, hl with | [_, _, _, _], _ => rfl⟩⟩
  replace h := Stop.go h
  first | (obtain ⟨_, h, _⟩ := h; rw [h]; rfl) | (obtain ⟨_, _, h, _⟩ := h; rw [h]; rfl) | (obtain ⟨_, _, _, h, _⟩ := h; rw [h]; rfl) | (obtain ⟨_, _, _, _, h, _⟩ := h; rw [h]; rfl) | (obtain ⟨_, _, _, _, _, h, _⟩ := h; rw [h]; rfl) | (obtain ⟨_, _, _, _, _, _, h, _⟩ := h; rw [h]; rfl) | (obtain ⟨_, _, _, _, _, _, _, h, _⟩ := h; rw [h]; rfl) | (obtain ⟨_, _, _, _, _, _, _, _, h, _⟩ := h; rw [h]; rfl)
theorem d_length_come {P : Program} {w : World} {K : PySem.W.Frag} {mg : Str → Option Value} {base : Heap} (E : Fx w K mg) : Dfn P w K mg base "length_come" 2 T_length_come := by
  obtain ⟨fd, ps, F, hk, hb⟩ := (a_length_come (P := P) (base := base) E).ex
  exact ⟨⟨_, fd, ps, F, E.f_length_come.1, hk, hb⟩, by decide⟩
def T_reckon_come (K : PySem.W.Frag) (h : Nat) : Tr := fun ys M k => Stop (∃ (w1 : Str) (a b : Ex) (ro : Addr) (g : Gm) (r : Str → Int) (nn : Nat) (sm nm : Key → Option PyData) (κ : Kd), ys = [.v (.ref ro), .d (.tuple [.str "reckon", .str w1, code a, code b]), .dk nn sm, .dk 0 nm] ∧ (ht (.rk w1 a b) ≤ h + 1 ∧ RunAt K M ro ∧ Ty (.rk w1 a b) g κ ∧ ScV g r nn sm ∧ nn + ht (.rk w1 a b) ≤ 800) ∧ k (.d (.int (vl (.rk w1 a b) r))) M)
theorem w_reckon_come {P : Program} {w : World} {K : PySem.W.Frag} {mg : Str → Option Value} {base : Heap} (E : Fx w K mg) {h j : Nat} (hc : Mfn P w K mg base (He.ga K "PlainRun") "come" j (T_come K h)) (hj : 8 ≤ j) {X : Cx} (C : Cxi X P w K mg base (j)) (A : At X ["run", "code", "scope", "numbers", "one"] (defScope (top 80)) true) {ys : List Sy} {M : Mem} {k : Sy → Mem → Prop} (hT : T_reckon_come K h ys M k) :
    ExK X (startG ["run", "code", "scope", "numbers", "one"] ys) M (defBody (top 80)) { nx := fun _ M' => Fz k (.d .none) M', rt := Fz k } := by
  have s0 : Slot X 0 "run" := A.slot (by decide +kernel)
  have s1 : Slot X 1 "code" := A.slot (by decide +kernel)
  have s2 : Slot X 2 "scope" := A.slot (by decide +kernel)
  have s3 : Slot X 3 "numbers" := A.slot (by decide +kernel)
  have s4 : Slot X 4 "one" := A.slot (by decide +kernel)
  have d_reckoned := d_reckoned (P := P) (w := w) (K := K) (mg := mg) (base := base) E
  obtain ⟨w1, a, b, ro, g, r, nn, sm, nm, κ, rfl, ⟨hh, hR, hTy, hS, hn⟩, q⟩ := hT.go
  obtain ⟨dx, fs, hro, hl1, hl2⟩ := id hR
  simp only [ht, Ty, vl] at hh hTy hn q
  refine ex_open (by rfl) ?_
  repeat walk_at "sx"
  refine .mk ⟨_, _, _, rfl, hro, hl1, ?_⟩
  repeat walk_at "sx"
  refine .mk ⟨a, ro, g, r, nn, _, nm, _, rfl, ⟨by omega, hR, hTy.2.2.1, hS, by omega⟩, ?_⟩
  repeat walk_at "sx"
  refine .mk ⟨_, _, _, rfl, hro, hl1, ?_⟩
  repeat walk_at "sx"
  refine .mk ⟨b, ro, g, r, nn, _, nm, _, rfl, ⟨by omega, hR, hTy.2.2.2, hS, by omega⟩, ?_⟩
  repeat walk_at "sx"
  have hi := ty_in a hTy.2.2.1 hS.2.1
  refine ⟨⟨hTy.2.1, by have := hi.1; have := hi.2; exact ⟨by omega, by omega⟩⟩, ?_⟩
  repeat walk_at "sx"
theorem a_reckon_come {P : Program} {w : World} {K : PySem.W.Frag} {mg : Str → Option Value} {base : Heap} (E : Fx w K mg) {h j : Nat} (hc : Mfn P w K mg base (He.ga K "PlainRun") "come" j (T_come K h)) (hj : 8 ≤ j) : Fat P w K mg base (He.ga K "reckon_come") (j + 1) (T_reckon_come K h) := by
  obtain ⟨hm, fd, F⟩ := E.f_reckon_come
  refine ⟨⟨fd, ["run", "code", "scope", "numbers"], def_okF (N := ["run", "code", "scope", "numbers", "one"]) F ⟨rfl, rfl, rfl, by decide +kernel, rfl, by decide +kernel, by decide +kernel⟩ (fun ys M k h => ?_) (fun X C A ys M k h => w_reckon_come E hc hj C A h), F.kp, F.bindsN fun _ _ _ _ _ _ us hl => match us, hl with | [_, _, _, _], _ => rfl⟩⟩
  replace h := Stop.go h
  first | (obtain ⟨h, _⟩ := h; rw [h]; rfl) | (obtain ⟨_, h, _⟩ := h; rw [h]; rfl) | (obtain ⟨_, _, h, _⟩ := h; rw [h]; rfl) | (obtain ⟨_, _, _, h, _⟩ := h; rw [h]; rfl) | (obtain ⟨_, _, _, _, h, _⟩ := h; rw [h]; rfl) | (obtain ⟨_, _, _, _, _, h, _⟩ := h; rw [h]; rfl) | (obtain ⟨_, _, _, _, _, _, h, _⟩ := h; rw [h]; rfl) | (obtain ⟨_, _, _, _, _, _, _, h, _⟩ := h; rw [h]; rfl) | (obtain ⟨_, _, _, _, _, _, _, _, h, _⟩ := h; rw [h]; rfl) | (obtain ⟨_, _, _, _, _, _, _, _, _, h, _⟩ := h; rw [h]; rfl) | (obtain ⟨_, _, _, _, _, _, _, _, _, _, h, _⟩ := h; rw [h]; rfl) | (obtain ⟨_, _, _, _, _, _, _, _, _, _, _, h, _⟩ := h; rw [h]; rfl) | (obtain ⟨_, _, _, _, _, _, _, _, _, _, _, _, h, _⟩ := h; rw [h]; rfl) | (obtain ⟨_, _, _, _, _, _, _, _, _, _, _, _, _, h, _⟩ := h; rw [h]; rfl) | (obtain ⟨_, _, _, _, _, _, _, _, _, _, _, _, _, _, h, _⟩ := h; rw [h]; rfl) | (obtain ⟨_, _, _, _, _, _, _, _, _, _, _, _, _, _, _, h, _⟩ := h; rw [h]; rfl) | (obtain ⟨_, _, _, _, _, _, _, _, _, _, _, _, _, _, _, _, h, _⟩ := h; rw [h]; rfl) | (obtain ⟨_, _, _, _, _, _, _, _, _, _, _, _, _, _, _, _, _, h, _⟩ := h; rw [h]; rfl) | (obtain ⟨_, _, _, _, _, _, _, _, _, _, _, _, _, _, _, _, _, _, h, _⟩ := h; rw [h]; rfl) | (obtain ⟨_, _, _, _, _, _, _, _, _, _, _, _, _, _, _, _, _, _, _, h, _⟩ := h; rw [h]; rfl)
def T_if_come (K : PySem.W.Frag) (h : Nat) : Tr := fun ys M k => Stop (∃ (a b c : Ex) (ro : Addr) (g : Gm) (r : Str → Int) (nn : Nat) (sm nm : Key → Option PyData) (κ : Kd), ys = [.v (.ref ro), .d (.tuple [.str "if", code a, code b, code c]), .dk nn sm, .dk 0 nm] ∧ (ht (.ite a b c) ≤ h + 1 ∧ RunAt K M ro ∧ Ty (.ite a b c) g κ ∧ ScV g r nn sm ∧ nn + ht (.ite a b c) ≤ 800) ∧ k (.d (.int (vl (.ite a b c) r))) M)
theorem w_if_come {P : Program} {w : World} {K : PySem.W.Frag} {mg : Str → Option Value} {base : Heap} (E : Fx w K mg) {h j : Nat} (hc : Mfn P w K mg base (He.ga K "PlainRun") "come" j (T_come K h)) (hj : 8 ≤ j) {X : Cx} (C : Cxi X P w K mg base (j)) (A : At X ["run", "code", "scope", "numbers"] (defScope (top 81)) true) {ys : List Sy} {M : Mem} {k : Sy → Mem → Prop} (hT : T_if_come K h ys M k) :
    ExK X (startG ["run", "code", "scope", "numbers"] ys) M (defBody (top 81)) { nx := fun _ M' => Fz k (.d .none) M', rt := Fz k } := by
  have s0 : Slot X 0 "run" := A.slot (by decide +kernel)
  have s1 : Slot X 1 "code" := A.slot (by decide +kernel)
  have s2 : Slot X 2 "scope" := A.slot (by decide +kernel)
  have s3 : Slot X 3 "numbers" := A.slot (by decide +kernel)
  obtain ⟨a, b, c, ro, g, r, nn, sm, nm, κ, rfl, ⟨hh, hR, hTy, hS, hn⟩, q⟩ := hT.go
  obtain ⟨dx, fs, hro, hl1, hl2⟩ := id hR
  simp only [ht, Ty, vl] at hh hTy hn q
  refine ex_open (by rfl) ?_
  repeat walk_at "sx"
  refine .mk ⟨_, _, _, rfl, hro, hl1, ?_⟩
  repeat walk_at "sx"
  refine .mk ⟨a, ro, g, r, nn, _, nm, _, rfl, ⟨by omega, hR, hTy.2.1, hS, by omega⟩, ?_⟩
  repeat walk_at "sx"
  by_cases hv : vl a r = 0
  · rw [if_pos hv] at q
    refine ifF (by rw [decide_eq_true hv]; rfl) ?_
    repeat walk_at "sx"
    refine .mk ⟨_, _, _, rfl, hro, hl1, ?_⟩
    repeat walk_at "sx"
    refine .mk ⟨c, ro, g, r, nn, _, nm, _, rfl, ⟨by omega, hR, hTy.2.2.2, hS, by omega⟩, ?_⟩
    repeat walk_at "sx"
  · rw [if_neg hv] at q
    refine ifT (by rw [decide_eq_false hv]; rfl) ?_
    repeat walk_at "sx"
    refine .mk ⟨_, _, _, rfl, hro, hl1, ?_⟩
    repeat walk_at "sx"
    refine .mk ⟨b, ro, g, r, nn, _, nm, _, rfl, ⟨by omega, hR, hTy.2.2.1, hS, by omega⟩, ?_⟩
    repeat walk_at "sx"
theorem a_if_come {P : Program} {w : World} {K : PySem.W.Frag} {mg : Str → Option Value} {base : Heap} (E : Fx w K mg) {h j : Nat} (hc : Mfn P w K mg base (He.ga K "PlainRun") "come" j (T_come K h)) (hj : 8 ≤ j) : Fat P w K mg base (He.ga K "if_come") (j + 1) (T_if_come K h) := by
  obtain ⟨hm, fd, F⟩ := E.f_if_come
  refine ⟨⟨fd, ["run", "code", "scope", "numbers"], def_okF (N := ["run", "code", "scope", "numbers"]) F ⟨rfl, rfl, rfl, by decide +kernel, rfl, by decide +kernel, by decide +kernel⟩ (fun ys M k h => ?_) (fun X C A ys M k h => w_if_come E hc hj C A h), F.kp, F.bindsN fun _ _ _ _ _ _ us hl => match us, hl with | [_, _, _, _], _ => rfl⟩⟩
  replace h := Stop.go h
  first | (obtain ⟨h, _⟩ := h; rw [h]; rfl) | (obtain ⟨_, h, _⟩ := h; rw [h]; rfl) | (obtain ⟨_, _, h, _⟩ := h; rw [h]; rfl) | (obtain ⟨_, _, _, h, _⟩ := h; rw [h]; rfl) | (obtain ⟨_, _, _, _, h, _⟩ := h; rw [h]; rfl) | (obtain ⟨_, _, _, _, _, h, _⟩ := h; rw [h]; rfl) | (obtain ⟨_, _, _, _, _, _, h, _⟩ := h; rw [h]; rfl) | (obtain ⟨_, _, _, _, _, _, _, h, _⟩ := h; rw [h]; rfl) | (obtain ⟨_, _, _, _, _, _, _, _, h, _⟩ := h; rw [h]; rfl) | (obtain ⟨_, _, _, _, _, _, _, _, _, h, _⟩ := h; rw [h]; rfl) | (obtain ⟨_, _, _, _, _, _, _, _, _, _, h, _⟩ := h; rw [h]; rfl) | (obtain ⟨_, _, _, _, _, _, _, _, _, _, _, h, _⟩ := h; rw [h]; rfl) | (obtain ⟨_, _, _, _, _, _, _, _, _, _, _, _, h, _⟩ := h; rw [h]; rfl) | (obtain ⟨_, _, _, _, _, _, _, _, _, _, _, _, _, h, _⟩ := h; rw [h]; rfl) | (obtain ⟨_, _, _, _, _, _, _, _, _, _, _, _, _, _, h, _⟩ := h; rw [h]; rfl) | (obtain ⟨_, _, _, _, _, _, _, _, _, _, _, _, _, _, _, h, _⟩ := h; rw [h]; rfl) | (obtain ⟨_, _, _, _, _, _, _, _, _, _, _, _, _, _, _, _, h, _⟩ := h; rw [h]; rfl) | (obtain ⟨_, _, _, _, _, _, _, _, _, _, _, _, _, _, _, _, _, h, _⟩ := h; rw [h]; rfl) | (obtain ⟨_, _, _, _, _, _, _, _, _, _, _, _, _, _, _, _, _, _, h, _⟩ := h; rw [h]; rfl) | (obtain ⟨_, _, _, _, _, _, _, _, _, _, _, _, _, _, _, _, _, _, _, h, _⟩ := h; rw [h]; rfl)
def T_let_come (K : PySem.W.Frag) (h : Nat) : Tr := fun ys M k => Stop (∃ (x : Str) (a b : Ex) (ro : Addr) (g : Gm) (r : Str → Int) (nn : Nat) (sm nm : Key → Option PyData) (κ : Kd), ys = [.v (.ref ro), .d (.tuple [.str "let", .str x, code a, code b]), .dk nn sm, .dk 0 nm] ∧ (ht (.lt x a b) ≤ h + 1 ∧ RunAt K M ro ∧ Ty (.lt x a b) g κ ∧ ScV g r nn sm ∧ nn + ht (.lt x a b) ≤ 800) ∧ k (.d (.int (vl (.lt x a b) r))) M)
theorem w_let_come {P : Program} {w : World} {K : PySem.W.Frag} {mg : Str → Option Value} {base : Heap} (E : Fx w K mg) {h j : Nat} (hc : Mfn P w K mg base (He.ga K "PlainRun") "come" j (T_come K h)) (hj : 8 ≤ j) {X : Cx} (C : Cxi X P w K mg base (j)) (A : At X ["run", "code", "scope", "numbers", "value"] (defScope (top 82)) true) {ys : List Sy} {M : Mem} {k : Sy → Mem → Prop} (hT : T_let_come K h ys M k) :
    ExK X (startG ["run", "code", "scope", "numbers", "value"] ys) M (defBody (top 82)) { nx := fun _ M' => Fz k (.d .none) M', rt := Fz k } := by
  have s0 : Slot X 0 "run" := A.slot (by decide +kernel)
  have s1 : Slot X 1 "code" := A.slot (by decide +kernel)
  have s2 : Slot X 2 "scope" := A.slot (by decide +kernel)
  have s3 : Slot X 3 "numbers" := A.slot (by decide +kernel)
  have s4 : Slot X 4 "value" := A.slot (by decide +kernel)
  have d_with_value := d_with_value (P := P) (w := w) (K := K) (mg := mg) (base := base) E
  obtain ⟨x, a, b, ro, g, r, nn, sm, nm, κ, rfl, ⟨hh, hR, hTy, hS, hn⟩, q⟩ := hT.go
  obtain ⟨dx, fs, hro, hl1, hl2⟩ := id hR
  simp only [ht, Ty, vl] at hh hTy hn q
  refine ex_open (by rfl) ?_
  repeat walk_at "sx"
  obtain ⟨ho, κ1, hTa, hTb⟩ := hTy
  refine .mk ⟨_, _, _, rfl, hro, hl1, ?_⟩
  repeat walk_at "sx"
  refine .mk ⟨a, ro, g, r, nn, _, nm, _, rfl, ⟨by omega, hR, hTa, hS, by omega⟩, ?_⟩
  repeat walk_at "sx"
  refine .mk ⟨_, _, _, rfl, hro, hl1, ?_⟩
  repeat walk_at "sx"
  refine .mk ⟨b, ro, _, _, nn + 1, _, nm, _, rfl, ⟨by omega, hR, hTb, hS.up (by omega) (ty_in a hTa hS.2.1), by omega⟩, ?_⟩
  repeat walk_at "sx"
theorem a_let_come {P : Program} {w : World} {K : PySem.W.Frag} {mg : Str → Option Value} {base : Heap} (E : Fx w K mg) {h j : Nat} (hc : Mfn P w K mg base (He.ga K "PlainRun") "come" j (T_come K h)) (hj : 8 ≤ j) : Fat P w K mg base (He.ga K "let_come") (j + 1) (T_let_come K h) := by
  obtain ⟨hm, fd, F⟩ := E.f_let_come
  refine ⟨⟨fd, ["run", "code", "scope", "numbers"], def_okF (N := ["run", "code", "scope", "numbers", "value"]) F ⟨rfl, rfl, rfl, by decide +kernel, rfl, by decide +kernel, by decide +kernel⟩ (fun ys M k h => ?_) (fun X C A ys M k h => w_let_come E hc hj C A h), F.kp, F.bindsN fun _ _ _ _ _ _ us hl => match us, hl with | [_, _, _, _], _ => rfl⟩⟩
  replace h := Stop.go h
  first | (obtain ⟨h, _⟩ := h; rw [h]; rfl) | (obtain ⟨_, h, _⟩ := h; rw [h]; rfl) | (obtain ⟨_, _, h, _⟩ := h; rw [h]; rfl) | (obtain ⟨_, _, _, h, _⟩ := h; rw [h]; rfl) | (obtain ⟨_, _, _, _, h, _⟩ := h; rw [h]; rfl) | (obtain ⟨_, _, _, _, _, h, _⟩ := h; rw [h]; rfl) | (obtain ⟨_, _, _, _, _, _, h, _⟩ := h; rw [h]; rfl) | (obtain ⟨_, _, _, _, _, _, _, h, _⟩ := h; rw [h]; rfl) | (obtain ⟨_, _, _, _, _, _, _, _, h, _⟩ := h; rw [h]; rfl) | (obtain ⟨_, _, _, _, _, _, _, _, _, h, _⟩ := h; rw [h]; rfl) | (obtain ⟨_, _, _, _, _, _, _, _, _, _, h, _⟩ := h; rw [h]; rfl) | (obtain ⟨_, _, _, _, _, _, _, _, _, _, _, h, _⟩ := h; rw [h]; rfl) | (obtain ⟨_, _, _, _, _, _, _, _, _, _, _, _, h, _⟩ := h; rw [h]; rfl) | (obtain ⟨_, _, _, _, _, _, _, _, _, _, _, _, _, h, _⟩ := h; rw [h]; rfl) | (obtain ⟨_, _, _, _, _, _, _, _, _, _, _, _, _, _, h, _⟩ := h; rw [h]; rfl) | (obtain ⟨_, _, _, _, _, _, _, _, _, _, _, _, _, _, _, h, _⟩ := h; rw [h]; rfl) | (obtain ⟨_, _, _, _, _, _, _, _, _, _, _, _, _, _, _, _, h, _⟩ := h; rw [h]; rfl) | (obtain ⟨_, _, _, _, _, _, _, _, _, _, _, _, _, _, _, _, _, h, _⟩ := h; rw [h]; rfl) | (obtain ⟨_, _, _, _, _, _, _, _, _, _, _, _, _, _, _, _, _, _, h, _⟩ := h; rw [h]; rfl) | (obtain ⟨_, _, _, _, _, _, _, _, _, _, _, _, _, _, _, _, _, _, _, h, _⟩ := h; rw [h]; rfl)
def T_value_come (K : PySem.W.Frag) (h : Nat) : Tr := fun ys M k => Stop (∃ (a : Ex) (ro : Addr) (g : Gm) (r : Str → Int) (nn : Nat) (sm nm : Key → Option PyData) (κ : Kd), ys = [.v (.ref ro), .d (.tuple [.str "value", code a]), .dk nn sm, .dk 0 nm] ∧ (ht (.va a) ≤ h + 1 ∧ RunAt K M ro ∧ Ty (.va a) g κ ∧ ScV g r nn sm ∧ nn + ht (.va a) ≤ 800) ∧ k (.d (.int (vl (.va a) r))) M)
theorem w_value_come {P : Program} {w : World} {K : PySem.W.Frag} {mg : Str → Option Value} {base : Heap} (E : Fx w K mg) {h j : Nat} (hc : Mfn P w K mg base (He.ga K "PlainRun") "come" j (T_come K h)) (hj : 8 ≤ j) {X : Cx} (C : Cxi X P w K mg base (j)) (A : At X ["run", "code", "scope", "numbers"] (defScope (top 95)) true) {ys : List Sy} {M : Mem} {k : Sy → Mem → Prop} (hT : T_value_come K h ys M k) :
    ExK X (startG ["run", "code", "scope", "numbers"] ys) M (defBody (top 95)) { nx := fun _ M' => Fz k (.d .none) M', rt := Fz k } := by
  have s0 : Slot X 0 "run" := A.slot (by decide +kernel)
  have s1 : Slot X 1 "code" := A.slot (by decide +kernel)
  have s2 : Slot X 2 "scope" := A.slot (by decide +kernel)
  have s3 : Slot X 3 "numbers" := A.slot (by decide +kernel)
  obtain ⟨a, ro, g, r, nn, sm, nm, κ, rfl, ⟨hh, hR, hTy, hS, hn⟩, q⟩ := hT.go
  obtain ⟨dx, fs, hro, hl1, hl2⟩ := id hR
  simp only [ht, Ty, vl] at hh hTy hn q
  refine ex_open (by rfl) ?_
  repeat walk_at "sx"
  obtain ⟨rfl, n, hTa⟩ := hTy
  refine .mk ⟨_, _, _, rfl, hro, hl1, ?_⟩
  repeat walk_at "sx"
  refine .mk ⟨a, ro, g, r, nn, _, nm, _, rfl, ⟨by omega, hR, hTa, hS, by omega⟩, ?_⟩
  repeat walk_at "sx"
theorem a_value_come {P : Program} {w : World} {K : PySem.W.Frag} {mg : Str → Option Value} {base : Heap} (E : Fx w K mg) {h j : Nat} (hc : Mfn P w K mg base (He.ga K "PlainRun") "come" j (T_come K h)) (hj : 8 ≤ j) : Fat P w K mg base (He.ga K "value_come") (j + 1) (T_value_come K h) := by
  obtain ⟨hm, fd, F⟩ := E.f_value_come
  refine ⟨⟨fd, ["run", "code", "scope", "numbers"], def_okF (N := ["run", "code", "scope", "numbers"]) F ⟨rfl, rfl, rfl, by decide +kernel, rfl, by decide +kernel, by decide +kernel⟩ (fun ys M k h => ?_) (fun X C A ys M k h => w_value_come E hc hj C A h), F.kp, F.bindsN fun _ _ _ _ _ _ us hl => match us, hl with | [_, _, _, _], _ => rfl⟩⟩
  replace h := Stop.go h
  first | (obtain ⟨h, _⟩ := h; rw [h]; rfl) | (obtain ⟨_, h, _⟩ := h; rw [h]; rfl) | (obtain ⟨_, _, h, _⟩ := h; rw [h]; rfl) | (obtain ⟨_, _, _, h, _⟩ := h; rw [h]; rfl) | (obtain ⟨_, _, _, _, h, _⟩ := h; rw [h]; rfl) | (obtain ⟨_, _, _, _, _, h, _⟩ := h; rw [h]; rfl) | (obtain ⟨_, _, _, _, _, _, h, _⟩ := h; rw [h]; rfl) | (obtain ⟨_, _, _, _, _, _, _, h, _⟩ := h; rw [h]; rfl) | (obtain ⟨_, _, _, _, _, _, _, _, h, _⟩ := h; rw [h]; rfl) | (obtain ⟨_, _, _, _, _, _, _, _, _, h, _⟩ := h; rw [h]; rfl) | (obtain ⟨_, _, _, _, _, _, _, _, _, _, h, _⟩ := h; rw [h]; rfl) | (obtain ⟨_, _, _, _, _, _, _, _, _, _, _, h, _⟩ := h; rw [h]; rfl) | (obtain ⟨_, _, _, _, _, _, _, _, _, _, _, _, h, _⟩ := h; rw [h]; rfl) | (obtain ⟨_, _, _, _, _, _, _, _, _, _, _, _, _, h, _⟩ := h; rw [h]; rfl) | (obtain ⟨_, _, _, _, _, _, _, _, _, _, _, _, _, _, h, _⟩ := h; rw [h]; rfl) | (obtain ⟨_, _, _, _, _, _, _, _, _, _, _, _, _, _, _, h, _⟩ := h; rw [h]; rfl) | (obtain ⟨_, _, _, _, _, _, _, _, _, _, _, _, _, _, _, _, h, _⟩ := h; rw [h]; rfl) | (obtain ⟨_, _, _, _, _, _, _, _, _, _, _, _, _, _, _, _, _, h, _⟩ := h; rw [h]; rfl) | (obtain ⟨_, _, _, _, _, _, _, _, _, _, _, _, _, _, _, _, _, _, h, _⟩ := h; rw [h]; rfl) | (obtain ⟨_, _, _, _, _, _, _, _, _, _, _, _, _, _, _, _, _, _, _, h, _⟩ := h; rw [h]; rfl)
def T_up_come (K : PySem.W.Frag) (h : Nat) : Tr := fun ys M k => Stop (∃ (n : Int) (a : Ex) (ro : Addr) (g : Gm) (r : Str → Int) (nn : Nat) (sm nm : Key → Option PyData) (κ : Kd), ys = [.v (.ref ro), .d (.tuple [.str "up", lenD n, code a]), .dk nn sm, .dk 0 nm] ∧ (ht (.up n a) ≤ h + 1 ∧ RunAt K M ro ∧ Ty (.up n a) g κ ∧ ScV g r nn sm ∧ nn + ht (.up n a) ≤ 800) ∧ k (.d (.int (vl (.up n a) r))) M)
theorem w_up_come {P : Program} {w : World} {K : PySem.W.Frag} {mg : Str → Option Value} {base : Heap} (E : Fx w K mg) {h j : Nat} (hc : Mfn P w K mg base (He.ga K "PlainRun") "come" j (T_come K h)) (hj : 8 ≤ j) {X : Cx} (C : Cxi X P w K mg base (j)) (A : At X ["run", "code", "scope", "numbers"] (defScope (top 96)) true) {ys : List Sy} {M : Mem} {k : Sy → Mem → Prop} (hT : T_up_come K h ys M k) :
    ExK X (startG ["run", "code", "scope", "numbers"] ys) M (defBody (top 96)) { nx := fun _ M' => Fz k (.d .none) M', rt := Fz k } := by
  have s0 : Slot X 0 "run" := A.slot (by decide +kernel)
  have s1 : Slot X 1 "code" := A.slot (by decide +kernel)
  have s2 : Slot X 2 "scope" := A.slot (by decide +kernel)
  have s3 : Slot X 3 "numbers" := A.slot (by decide +kernel)
  have d_worth := d_worth (P := P) (w := w) (K := K) (mg := mg) (base := base) E
  obtain ⟨n, a, ro, g, r, nn, sm, nm, κ, rfl, ⟨hh, hR, hTy, hS, hn⟩, q⟩ := hT.go
  obtain ⟨dx, fs, hro, hl1, hl2⟩ := id hR
  simp only [ht, Ty, vl] at hh hTy hn q
  refine ex_open (by rfl) ?_
  repeat walk_at "sx"
  obtain ⟨m, ho, hTa⟩ := hTy
  refine .mk ⟨_, _, _, rfl, hro, hl1, ?_⟩
  repeat walk_at "sx"
  refine .mk ⟨a, ro, g, r, nn, _, nm, _, rfl, ⟨by omega, hR, hTa, hS, by omega⟩, ?_⟩
  repeat walk_at "sx"
theorem a_up_come {P : Program} {w : World} {K : PySem.W.Frag} {mg : Str → Option Value} {base : Heap} (E : Fx w K mg) {h j : Nat} (hc : Mfn P w K mg base (He.ga K "PlainRun") "come" j (T_come K h)) (hj : 8 ≤ j) : Fat P w K mg base (He.ga K "up_come") (j + 1) (T_up_come K h) := by
  obtain ⟨hm, fd, F⟩ := E.f_up_come
  refine ⟨⟨fd, ["run", "code", "scope", "numbers"], def_okF (N := ["run", "code", "scope", "numbers"]) F ⟨rfl, rfl, rfl, by decide +kernel, rfl, by decide +kernel, by decide +kernel⟩ (fun ys M k h => ?_) (fun X C A ys M k h => w_up_come E hc hj C A h), F.kp, F.bindsN fun _ _ _ _ _ _ us hl => match us, hl with | [_, _, _, _], _ => rfl⟩⟩
  replace h := Stop.go h
  first | (obtain ⟨h, _⟩ := h; rw [h]; rfl) | (obtain ⟨_, h, _⟩ := h; rw [h]; rfl) | (obtain ⟨_, _, h, _⟩ := h; rw [h]; rfl) | (obtain ⟨_, _, _, h, _⟩ := h; rw [h]; rfl) | (obtain ⟨_, _, _, _, h, _⟩ := h; rw [h]; rfl) | (obtain ⟨_, _, _, _, _, h, _⟩ := h; rw [h]; rfl) | (obtain ⟨_, _, _, _, _, _, h, _⟩ := h; rw [h]; rfl) | (obtain ⟨_, _, _, _, _, _, _, h, _⟩ := h; rw [h]; rfl) | (obtain ⟨_, _, _, _, _, _, _, _, h, _⟩ := h; rw [h]; rfl) | (obtain ⟨_, _, _, _, _, _, _, _, _, h, _⟩ := h; rw [h]; rfl) | (obtain ⟨_, _, _, _, _, _, _, _, _, _, h, _⟩ := h; rw [h]; rfl) | (obtain ⟨_, _, _, _, _, _, _, _, _, _, _, h, _⟩ := h; rw [h]; rfl) | (obtain ⟨_, _, _, _, _, _, _, _, _, _, _, _, h, _⟩ := h; rw [h]; rfl) | (obtain ⟨_, _, _, _, _, _, _, _, _, _, _, _, _, h, _⟩ := h; rw [h]; rfl) | (obtain ⟨_, _, _, _, _, _, _, _, _, _, _, _, _, _, h, _⟩ := h; rw [h]; rfl) | (obtain ⟨_, _, _, _, _, _, _, _, _, _, _, _, _, _, _, h, _⟩ := h; rw [h]; rfl) | (obtain ⟨_, _, _, _, _, _, _, _, _, _, _, _, _, _, _, _, h, _⟩ := h; rw [h]; rfl) | (obtain ⟨_, _, _, _, _, _, _, _, _, _, _, _, _, _, _, _, _, h, _⟩ := h; rw [h]; rfl) | (obtain ⟨_, _, _, _, _, _, _, _, _, _, _, _, _, _, _, _, _, _, h, _⟩ := h; rw [h]; rfl) | (obtain ⟨_, _, _, _, _, _, _, _, _, _, _, _, _, _, _, _, _, _, _, h, _⟩ := h; rw [h]; rfl)
def T_wide_come (K : PySem.W.Frag) (h : Nat) : Tr := fun ys M k => Stop (∃ (n : Int) (a : Ex) (ro : Addr) (g : Gm) (r : Str → Int) (nn : Nat) (sm nm : Key → Option PyData) (κ : Kd), ys = [.v (.ref ro), .d (.tuple [.str "wide", lenD n, code a]), .dk nn sm, .dk 0 nm] ∧ (ht (.wi n a) ≤ h + 1 ∧ RunAt K M ro ∧ Ty (.wi n a) g κ ∧ ScV g r nn sm ∧ nn + ht (.wi n a) ≤ 800) ∧ k (.d (.int (vl (.wi n a) r))) M)
theorem w_wide_come {P : Program} {w : World} {K : PySem.W.Frag} {mg : Str → Option Value} {base : Heap} (E : Fx w K mg) {h j : Nat} (hc : Mfn P w K mg base (He.ga K "PlainRun") "come" j (T_come K h)) (hj : 8 ≤ j) {X : Cx} (C : Cxi X P w K mg base (j)) (A : At X ["run", "code", "scope", "numbers"] (defScope (top 97)) true) {ys : List Sy} {M : Mem} {k : Sy → Mem → Prop} (hT : T_wide_come K h ys M k) :
    ExK X (startG ["run", "code", "scope", "numbers"] ys) M (defBody (top 97)) { nx := fun _ M' => Fz k (.d .none) M', rt := Fz k } := by
  have s0 : Slot X 0 "run" := A.slot (by decide +kernel)
  have s1 : Slot X 1 "code" := A.slot (by decide +kernel)
  have s2 : Slot X 2 "scope" := A.slot (by decide +kernel)
  have s3 : Slot X 3 "numbers" := A.slot (by decide +kernel)
  obtain ⟨n, a, ro, g, r, nn, sm, nm, κ, rfl, ⟨hh, hR, hTy, hS, hn⟩, q⟩ := hT.go
  obtain ⟨dx, fs, hro, hl1, hl2⟩ := id hR
  simp only [ht, Ty, vl] at hh hTy hn q
  refine ex_open (by rfl) ?_
  repeat walk_at "sx"
  obtain ⟨ho, m, hm, hTa⟩ := hTy
  refine .mk ⟨_, _, _, rfl, hro, hl1, ?_⟩
  repeat walk_at "sx"
  refine .mk ⟨a, ro, g, r, nn, _, nm, _, rfl, ⟨by omega, hR, hTa, hS, by omega⟩, ?_⟩
  repeat walk_at "sx"
theorem a_wide_come {P : Program} {w : World} {K : PySem.W.Frag} {mg : Str → Option Value} {base : Heap} (E : Fx w K mg) {h j : Nat} (hc : Mfn P w K mg base (He.ga K "PlainRun") "come" j (T_come K h)) (hj : 8 ≤ j) : Fat P w K mg base (He.ga K "wide_come") (j + 1) (T_wide_come K h) := by
  obtain ⟨hm, fd, F⟩ := E.f_wide_come
  refine ⟨⟨fd, ["run", "code", "scope", "numbers"], def_okF (N := ["run", "code", "scope", "numbers"]) F ⟨rfl, rfl, rfl, by decide +kernel, rfl, by decide +kernel, by decide +kernel⟩ (fun ys M k h => ?_) (fun X C A ys M k h => w_wide_come E hc hj C A h), F.kp, F.bindsN fun _ _ _ _ _ _ us hl => match us, hl with | [_, _, _, _], _ => rfl⟩⟩
  replace h := Stop.go h
  first | (obtain ⟨h, _⟩ := h; rw [h]; rfl) | (obtain ⟨_, h, _⟩ := h; rw [h]; rfl) | (obtain ⟨_, _, h, _⟩ := h; rw [h]; rfl) | (obtain ⟨_, _, _, h, _⟩ := h; rw [h]; rfl) | (obtain ⟨_, _, _, _, h, _⟩ := h; rw [h]; rfl) | (obtain ⟨_, _, _, _, _, h, _⟩ := h; rw [h]; rfl) | (obtain ⟨_, _, _, _, _, _, h, _⟩ := h; rw [h]; rfl) | (obtain ⟨_, _, _, _, _, _, _, h, _⟩ := h; rw [h]; rfl) | (obtain ⟨_, _, _, _, _, _, _, _, h, _⟩ := h; rw [h]; rfl) | (obtain ⟨_, _, _, _, _, _, _, _, _, h, _⟩ := h; rw [h]; rfl) | (obtain ⟨_, _, _, _, _, _, _, _, _, _, h, _⟩ := h; rw [h]; rfl) | (obtain ⟨_, _, _, _, _, _, _, _, _, _, _, h, _⟩ := h; rw [h]; rfl) | (obtain ⟨_, _, _, _, _, _, _, _, _, _, _, _, h, _⟩ := h; rw [h]; rfl) | (obtain ⟨_, _, _, _, _, _, _, _, _, _, _, _, _, h, _⟩ := h; rw [h]; rfl) | (obtain ⟨_, _, _, _, _, _, _, _, _, _, _, _, _, _, h, _⟩ := h; rw [h]; rfl) | (obtain ⟨_, _, _, _, _, _, _, _, _, _, _, _, _, _, _, h, _⟩ := h; rw [h]; rfl) | (obtain ⟨_, _, _, _, _, _, _, _, _, _, _, _, _, _, _, _, h, _⟩ := h; rw [h]; rfl) | (obtain ⟨_, _, _, _, _, _, _, _, _, _, _, _, _, _, _, _, _, h, _⟩ := h; rw [h]; rfl) | (obtain ⟨_, _, _, _, _, _, _, _, _, _, _, _, _, _, _, _, _, _, h, _⟩ := h; rw [h]; rfl) | (obtain ⟨_, _, _, _, _, _, _, _, _, _, _, _, _, _, _, _, _, _, _, h, _⟩ := h; rw [h]; rfl)
def T_mirror_come (K : PySem.W.Frag) (h : Nat) : Tr := fun ys M k => Stop (∃ (l : Int) (a : Ex) (ro : Addr) (g : Gm) (r : Str → Int) (nn : Nat) (sm nm : Key → Option PyData) (κ : Kd), ys = [.v (.ref ro), .d (.tuple [.str "mirror", lenD l, code a]), .dk nn sm, .dk 0 nm] ∧ (ht (.mi l a) ≤ h + 1 ∧ RunAt K M ro ∧ Ty (.mi l a) g κ ∧ ScV g r nn sm ∧ nn + ht (.mi l a) ≤ 800) ∧ k (.d (.int (vl (.mi l a) r))) M)
theorem w_mirror_come {P : Program} {w : World} {K : PySem.W.Frag} {mg : Str → Option Value} {base : Heap} (E : Fx w K mg) {h j : Nat} (hc : Mfn P w K mg base (He.ga K "PlainRun") "come" j (T_come K h)) (hj : 8 ≤ j) {X : Cx} (C : Cxi X P w K mg base (j)) (A : At X ["run", "code", "scope", "numbers"] (defScope (top 98)) true) {ys : List Sy} {M : Mem} {k : Sy → Mem → Prop} (hT : T_mirror_come K h ys M k) :
    ExK X (startG ["run", "code", "scope", "numbers"] ys) M (defBody (top 98)) { nx := fun _ M' => Fz k (.d .none) M', rt := Fz k } := by
  have s0 : Slot X 0 "run" := A.slot (by decide +kernel)
  have s1 : Slot X 1 "code" := A.slot (by decide +kernel)
  have s2 : Slot X 2 "scope" := A.slot (by decide +kernel)
  have s3 : Slot X 3 "numbers" := A.slot (by decide +kernel)
  have d_worth := d_worth (P := P) (w := w) (K := K) (mg := mg) (base := base) E
  obtain ⟨l, a, ro, g, r, nn, sm, nm, κ, rfl, ⟨hh, hR, hTy, hS, hn⟩, q⟩ := hT.go
  obtain ⟨dx, fs, hro, hl1, hl2⟩ := id hR
  simp only [ht, Ty, vl] at hh hTy hn q
  refine ex_open (by rfl) ?_
  repeat walk_at "sx"
  obtain ⟨ho, hTa⟩ := hTy
  refine .mk ⟨_, _, _, rfl, hro, hl1, ?_⟩
  repeat walk_at "sx"
  refine .mk ⟨a, ro, g, r, nn, _, nm, _, rfl, ⟨by omega, hR, hTa, hS, by omega⟩, ?_⟩
  repeat walk_at "sx"
theorem a_mirror_come {P : Program} {w : World} {K : PySem.W.Frag} {mg : Str → Option Value} {base : Heap} (E : Fx w K mg) {h j : Nat} (hc : Mfn P w K mg base (He.ga K "PlainRun") "come" j (T_come K h)) (hj : 8 ≤ j) : Fat P w K mg base (He.ga K "mirror_come") (j + 1) (T_mirror_come K h) := by
  obtain ⟨hm, fd, F⟩ := E.f_mirror_come
  refine ⟨⟨fd, ["run", "code", "scope", "numbers"], def_okF (N := ["run", "code", "scope", "numbers"]) F ⟨rfl, rfl, rfl, by decide +kernel, rfl, by decide +kernel, by decide +kernel⟩ (fun ys M k h => ?_) (fun X C A ys M k h => w_mirror_come E hc hj C A h), F.kp, F.bindsN fun _ _ _ _ _ _ us hl => match us, hl with | [_, _, _, _], _ => rfl⟩⟩
  replace h := Stop.go h
  first | (obtain ⟨h, _⟩ := h; rw [h]; rfl) | (obtain ⟨_, h, _⟩ := h; rw [h]; rfl) | (obtain ⟨_, _, h, _⟩ := h; rw [h]; rfl) | (obtain ⟨_, _, _, h, _⟩ := h; rw [h]; rfl) | (obtain ⟨_, _, _, _, h, _⟩ := h; rw [h]; rfl) | (obtain ⟨_, _, _, _, _, h, _⟩ := h; rw [h]; rfl) | (obtain ⟨_, _, _, _, _, _, h, _⟩ := h; rw [h]; rfl) | (obtain ⟨_, _, _, _, _, _, _, h, _⟩ := h; rw [h]; rfl) | (obtain ⟨_, _, _, _, _, _, _, _, h, _⟩ := h; rw [h]; rfl) | (obtain ⟨_, _, _, _, _, _, _, _, _, h, _⟩ := h; rw [h]; rfl) | (obtain ⟨_, _, _, _, _, _, _, _, _, _, h, _⟩ := h; rw [h]; rfl) | (obtain ⟨_, _, _, _, _, _, _, _, _, _, _, h, _⟩ := h; rw [h]; rfl) | (obtain ⟨_, _, _, _, _, _, _, _, _, _, _, _, h, _⟩ := h; rw [h]; rfl) | (obtain ⟨_, _, _, _, _, _, _, _, _, _, _, _, _, h, _⟩ := h; rw [h]; rfl) | (obtain ⟨_, _, _, _, _, _, _, _, _, _, _, _, _, _, h, _⟩ := h; rw [h]; rfl) | (obtain ⟨_, _, _, _, _, _, _, _, _, _, _, _, _, _, _, h, _⟩ := h; rw [h]; rfl) | (obtain ⟨_, _, _, _, _, _, _, _, _, _, _, _, _, _, _, _, h, _⟩ := h; rw [h]; rfl) | (obtain ⟨_, _, _, _, _, _, _, _, _, _, _, _, _, _, _, _, _, h, _⟩ := h; rw [h]; rfl) | (obtain ⟨_, _, _, _, _, _, _, _, _, _, _, _, _, _, _, _, _, _, h, _⟩ := h; rw [h]; rfl) | (obtain ⟨_, _, _, _, _, _, _, _, _, _, _, _, _, _, _, _, _, _, _, h, _⟩ := h; rw [h]; rfl)
def T_fork_come (K : PySem.W.Frag) (h : Nat) : Tr := fun ys M k => Stop (∃ (n : Int) (p : Ex) (x : Str) (a b : Ex) (ro : Addr) (g : Gm) (r : Str → Int) (nn : Nat) (sm nm : Key → Option PyData) (κ : Kd), ys = [.v (.ref ro), .d (.tuple [.str "fork", lenD n, code p, .str x, code a, code b]), .dk nn sm, .dk 0 nm] ∧ (ht (.fk n p x a b) ≤ h + 1 ∧ RunAt K M ro ∧ Ty (.fk n p x a b) g κ ∧ ScV g r nn sm ∧ nn + ht (.fk n p x a b) ≤ 800) ∧ k (.d (.int (vl (.fk n p x a b) r))) M)
theorem w_fork_come {P : Program} {w : World} {K : PySem.W.Frag} {mg : Str → Option Value} {base : Heap} (E : Fx w K mg) {h j : Nat} (hc : Mfn P w K mg base (He.ga K "PlainRun") "come" j (T_come K h)) (hj : 8 ≤ j) {X : Cx} (C : Cxi X P w K mg base (j)) (A : At X ["run", "code", "scope", "numbers", "word", "length", "part", "name", "near", "far", "place", "low"] (defScope (top 99)) true) {ys : List Sy} {M : Mem} {k : Sy → Mem → Prop} (hT : T_fork_come K h ys M k) :
    ExK X (startG ["run", "code", "scope", "numbers", "word", "length", "part", "name", "near", "far", "place", "low"] ys) M (defBody (top 99)) { nx := fun _ M' => Fz k (.d .none) M', rt := Fz k } := by
  have s0 : Slot X 0 "run" := A.slot (by decide +kernel)
  have s1 : Slot X 1 "code" := A.slot (by decide +kernel)
  have s2 : Slot X 2 "scope" := A.slot (by decide +kernel)
  have s3 : Slot X 3 "numbers" := A.slot (by decide +kernel)
  have s4 : Slot X 4 "word" := A.slot (by decide +kernel)
  have s5 : Slot X 5 "length" := A.slot (by decide +kernel)
  have s6 : Slot X 6 "part" := A.slot (by decide +kernel)
  have s7 : Slot X 7 "name" := A.slot (by decide +kernel)
  have s8 : Slot X 8 "near" := A.slot (by decide +kernel)
  have s9 : Slot X 9 "far" := A.slot (by decide +kernel)
  have s10 : Slot X 10 "place" := A.slot (by decide +kernel)
  have s11 : Slot X 11 "low" := A.slot (by decide +kernel)
  have d_worth := d_worth (P := P) (w := w) (K := K) (mg := mg) (base := base) E
  have d_with_value := d_with_value (P := P) (w := w) (K := K) (mg := mg) (base := base) E
  obtain ⟨n, p, x, a, b, ro, g, r, nn, sm, nm, κ, rfl, ⟨hh, hR, hTy, hS, hn⟩, q⟩ := hT.go
  obtain ⟨dx, fs, hro, hl1, hl2⟩ := id hR
  simp only [ht, Ty, vl] at hh hTy hn q
  refine ex_open (by rfl) ?_
  repeat walk_at "sx"
  obtain ⟨ho, hn0, m, hm1, hm2, hTp, hTa, hTb⟩ := hTy
  refine .mk ⟨_, _, _, rfl, hro, hl1, ?_⟩
  repeat walk_at "sx"
  refine .mk ⟨p, ro, g, r, nn, _, nm, _, rfl, ⟨by omega, hR, hTp, hS, by omega⟩, ?_⟩
  repeat walk_at "sx"
  have hi := ty_in p hTp hS.2.1
  by_cases hv : vl p r < n
  · rw [if_pos hv] at q
    refine ifT (decide_eq_true hv) ?_
    repeat walk_at "sx"
    refine .mk ⟨_, _, _, rfl, hro, hl1, ?_⟩
    repeat walk_at "sx"
    refine .mk ⟨a, ro, _, _, nn + 1, _, nm, _, rfl, ⟨by omega, hR, hTa, hS.up (by omega) ⟨hi.1, hv⟩, by omega⟩, ?_⟩
    repeat walk_at "sx"
  · rw [if_neg hv] at q
    refine ifF (decide_eq_false hv) ?_
    repeat walk_at "sx"
    refine .mk ⟨_, _, _, rfl, hro, hl1, ?_⟩
    repeat walk_at "sx"
    refine .mk ⟨b, ro, _, _, nn + 1, _, nm, _, rfl, ⟨by omega, hR, hTb, hS.up (by omega) ⟨by omega, by have := hi.2; omega⟩, by omega⟩, ?_⟩
    repeat walk_at "sx"
theorem a_fork_come {P : Program} {w : World} {K : PySem.W.Frag} {mg : Str → Option Value} {base : Heap} (E : Fx w K mg) {h j : Nat} (hc : Mfn P w K mg base (He.ga K "PlainRun") "come" j (T_come K h)) (hj : 8 ≤ j) : Fat P w K mg base (He.ga K "fork_come") (j + 1) (T_fork_come K h) := by
  obtain ⟨hm, fd, F⟩ := E.f_fork_come
  refine ⟨⟨fd, ["run", "code", "scope", "numbers"], def_okF (N := ["run", "code", "scope", "numbers", "word", "length", "part", "name", "near", "far", "place", "low"]) F ⟨rfl, rfl, rfl, by decide +kernel, rfl, by decide +kernel, by decide +kernel⟩ (fun ys M k h => ?_) (fun X C A ys M k h => w_fork_come E hc hj C A h), F.kp, F.bindsN fun _ _ _ _ _ _ us hl => match us, hl with | [_, _, _, _], _ => rfl⟩⟩
  replace h := Stop.go h
  first | (obtain ⟨h, _⟩ := h; rw [h]; rfl) | (obtain ⟨_, h, _⟩ := h; rw [h]; rfl) | (obtain ⟨_, _, h, _⟩ := h; rw [h]; rfl) | (obtain ⟨_, _, _, h, _⟩ := h; rw [h]; rfl) | (obtain ⟨_, _, _, _, h, _⟩ := h; rw [h]; rfl) | (obtain ⟨_, _, _, _, _, h, _⟩ := h; rw [h]; rfl) | (obtain ⟨_, _, _, _, _, _, h, _⟩ := h; rw [h]; rfl) | (obtain ⟨_, _, _, _, _, _, _, h, _⟩ := h; rw [h]; rfl) | (obtain ⟨_, _, _, _, _, _, _, _, h, _⟩ := h; rw [h]; rfl) | (obtain ⟨_, _, _, _, _, _, _, _, _, h, _⟩ := h; rw [h]; rfl) | (obtain ⟨_, _, _, _, _, _, _, _, _, _, h, _⟩ := h; rw [h]; rfl) | (obtain ⟨_, _, _, _, _, _, _, _, _, _, _, h, _⟩ := h; rw [h]; rfl) | (obtain ⟨_, _, _, _, _, _, _, _, _, _, _, _, h, _⟩ := h; rw [h]; rfl) | (obtain ⟨_, _, _, _, _, _, _, _, _, _, _, _, _, h, _⟩ := h; rw [h]; rfl) | (obtain ⟨_, _, _, _, _, _, _, _, _, _, _, _, _, _, h, _⟩ := h; rw [h]; rfl) | (obtain ⟨_, _, _, _, _, _, _, _, _, _, _, _, _, _, _, h, _⟩ := h; rw [h]; rfl) | (obtain ⟨_, _, _, _, _, _, _, _, _, _, _, _, _, _, _, _, h, _⟩ := h; rw [h]; rfl) | (obtain ⟨_, _, _, _, _, _, _, _, _, _, _, _, _, _, _, _, _, h, _⟩ := h; rw [h]; rfl) | (obtain ⟨_, _, _, _, _, _, _, _, _, _, _, _, _, _, _, _, _, _, h, _⟩ := h; rw [h]; rfl) | (obtain ⟨_, _, _, _, _, _, _, _, _, _, _, _, _, _, _, _, _, _, _, h, _⟩ := h; rw [h]; rfl)
def T_when_come (K : PySem.W.Frag) (h : Nat) : Tr := fun ys M k => Stop (∃ (a : Ex) (n : Int) (x : Str) (b c : Ex) (ro : Addr) (g : Gm) (r : Str → Int) (nn : Nat) (sm nm : Key → Option PyData) (κ : Kd), ys = [.v (.ref ro), .d (.tuple [.str "when", code a, lenD n, .str x, code b, code c]), .dk nn sm, .dk 0 nm] ∧ (ht (.wh a n x b c) ≤ h + 1 ∧ RunAt K M ro ∧ Ty (.wh a n x b c) g κ ∧ ScV g r nn sm ∧ nn + ht (.wh a n x b c) ≤ 800) ∧ k (.d (.int (vl (.wh a n x b c) r))) M)
theorem w_when_come {P : Program} {w : World} {K : PySem.W.Frag} {mg : Str → Option Value} {base : Heap} (E : Fx w K mg) {h j : Nat} (hc : Mfn P w K mg base (He.ga K "PlainRun") "come" j (T_come K h)) (hj : 8 ≤ j) {X : Cx} (C : Cxi X P w K mg base (j)) (A : At X ["run", "code", "scope", "numbers", "word", "part", "length", "name", "near", "far", "number"] (defScope (top 100)) true) {ys : List Sy} {M : Mem} {k : Sy → Mem → Prop} (hT : T_when_come K h ys M k) :
    ExK X (startG ["run", "code", "scope", "numbers", "word", "part", "length", "name", "near", "far", "number"] ys) M (defBody (top 100)) { nx := fun _ M' => Fz k (.d .none) M', rt := Fz k } := by
  have s0 : Slot X 0 "run" := A.slot (by decide +kernel)
  have s1 : Slot X 1 "code" := A.slot (by decide +kernel)
  have s2 : Slot X 2 "scope" := A.slot (by decide +kernel)
  have s3 : Slot X 3 "numbers" := A.slot (by decide +kernel)
  have s4 : Slot X 4 "word" := A.slot (by decide +kernel)
  have s5 : Slot X 5 "part" := A.slot (by decide +kernel)
  have s6 : Slot X 6 "length" := A.slot (by decide +kernel)
  have s7 : Slot X 7 "name" := A.slot (by decide +kernel)
  have s8 : Slot X 8 "near" := A.slot (by decide +kernel)
  have s9 : Slot X 9 "far" := A.slot (by decide +kernel)
  have s10 : Slot X 10 "number" := A.slot (by decide +kernel)
  have d_worth := d_worth (P := P) (w := w) (K := K) (mg := mg) (base := base) E
  have d_with_value := d_with_value (P := P) (w := w) (K := K) (mg := mg) (base := base) E
  obtain ⟨a, n, x, b, c, ro, g, r, nn, sm, nm, κ, rfl, ⟨hh, hR, hTy, hS, hn⟩, q⟩ := hT.go
  obtain ⟨dx, fs, hro, hl1, hl2⟩ := id hR
  simp only [ht, Ty, vl] at hh hTy hn q
  refine ex_open (by rfl) ?_
  repeat walk_at "sx"
  obtain ⟨ho, hn0, hTa, hTb, hTc⟩ := hTy
  refine .mk ⟨_, _, _, rfl, hro, hl1, ?_⟩
  repeat walk_at "sx"
  refine .mk ⟨a, ro, g, r, nn, _, nm, _, rfl, ⟨by omega, hR, hTa, hS, by omega⟩, ?_⟩
  repeat walk_at "sx"
  have hi := ty_in a hTa hS.2.1
  by_cases hv : vl a r < n
  · rw [if_pos hv] at q
    refine ifT (decide_eq_true hv) ?_
    repeat walk_at "sx"
    refine .mk ⟨_, _, _, rfl, hro, hl1, ?_⟩
    repeat walk_at "sx"
    refine .mk ⟨b, ro, _, _, nn + 1, _, nm, _, rfl, ⟨by omega, hR, hTb, hS.up (by omega) ⟨hi.1, hv⟩, by omega⟩, ?_⟩
    repeat walk_at "sx"
  · rw [if_neg hv] at q
    refine ifF (decide_eq_false hv) ?_
    repeat walk_at "sx"
    refine .mk ⟨_, _, _, rfl, hro, hl1, ?_⟩
    repeat walk_at "sx"
    refine .mk ⟨c, ro, g, r, nn, _, nm, _, rfl, ⟨by omega, hR, hTc, hS, by omega⟩, ?_⟩
    repeat walk_at "sx"
theorem a_when_come {P : Program} {w : World} {K : PySem.W.Frag} {mg : Str → Option Value} {base : Heap} (E : Fx w K mg) {h j : Nat} (hc : Mfn P w K mg base (He.ga K "PlainRun") "come" j (T_come K h)) (hj : 8 ≤ j) : Fat P w K mg base (He.ga K "when_come") (j + 1) (T_when_come K h) := by
  obtain ⟨hm, fd, F⟩ := E.f_when_come
  refine ⟨⟨fd, ["run", "code", "scope", "numbers"], def_okF (N := ["run", "code", "scope", "numbers", "word", "part", "length", "name", "near", "far", "number"]) F ⟨rfl, rfl, rfl, by decide +kernel, rfl, by decide +kernel, by decide +kernel⟩ (fun ys M k h => ?_) (fun X C A ys M k h => w_when_come E hc hj C A h), F.kp, F.bindsN fun _ _ _ _ _ _ us hl => match us, hl with | [_, _, _, _], _ => rfl⟩⟩
  replace h := Stop.go h
  first | (obtain ⟨h, _⟩ := h; rw [h]; rfl) | (obtain ⟨_, h, _⟩ := h; rw [h]; rfl) | (obtain ⟨_, _, h, _⟩ := h; rw [h]; rfl) | (obtain ⟨_, _, _, h, _⟩ := h; rw [h]; rfl) | (obtain ⟨_, _, _, _, h, _⟩ := h; rw [h]; rfl) | (obtain ⟨_, _, _, _, _, h, _⟩ := h; rw [h]; rfl) | (obtain ⟨_, _, _, _, _, _, h, _⟩ := h; rw [h]; rfl) | (obtain ⟨_, _, _, _, _, _, _, h, _⟩ := h; rw [h]; rfl) | (obtain ⟨_, _, _, _, _, _, _, _, h, _⟩ := h; rw [h]; rfl) | (obtain ⟨_, _, _, _, _, _, _, _, _, h, _⟩ := h; rw [h]; rfl) | (obtain ⟨_, _, _, _, _, _, _, _, _, _, h, _⟩ := h; rw [h]; rfl) | (obtain ⟨_, _, _, _, _, _, _, _, _, _, _, h, _⟩ := h; rw [h]; rfl) | (obtain ⟨_, _, _, _, _, _, _, _, _, _, _, _, h, _⟩ := h; rw [h]; rfl) | (obtain ⟨_, _, _, _, _, _, _, _, _, _, _, _, _, h, _⟩ := h; rw [h]; rfl) | (obtain ⟨_, _, _, _, _, _, _, _, _, _, _, _, _, _, h, _⟩ := h; rw [h]; rfl) | (obtain ⟨_, _, _, _, _, _, _, _, _, _, _, _, _, _, _, h, _⟩ := h; rw [h]; rfl) | (obtain ⟨_, _, _, _, _, _, _, _, _, _, _, _, _, _, _, _, h, _⟩ := h; rw [h]; rfl) | (obtain ⟨_, _, _, _, _, _, _, _, _, _, _, _, _, _, _, _, _, h, _⟩ := h; rw [h]; rfl) | (obtain ⟨_, _, _, _, _, _, _, _, _, _, _, _, _, _, _, _, _, _, h, _⟩ := h; rw [h]; rfl) | (obtain ⟨_, _, _, _, _, _, _, _, _, _, _, _, _, _, _, _, _, _, _, h, _⟩ := h; rw [h]; rfl)
def T_Finder_own (K : PySem.W.Frag) : Tr := fun ys M k => ∃ (fi : Addr) (c : Int), ys = [.v (.ref fi), .d (.int c), .sl []] ∧ k (.d .none) M
theorem w_Finder_own {P : Program} {w : World} {K : PySem.W.Frag} {mg : Str → Option Value} {base : Heap} (E : Fx w K mg) {X : Cx} (C : Cxi X P w K mg base 0) (A : At X ["self", "node", "names", "name"] (defScope (inClass (top 114) 2)) true) {ys : List Sy} {M : Mem} {k : Sy → Mem → Prop} (hT : T_Finder_own K ys M k) :
    ExK X (startG ["self", "node", "names", "name"] ys) M (defBody (inClass (top 114) 2)) { nx := fun _ M' => Fz k (.d .none) M', rt := Fz k } := by
  have s0 : Slot X 0 "self" := A.slot (by decide +kernel)
  have s1 : Slot X 1 "node" := A.slot (by decide +kernel)
  have s2 : Slot X 2 "names" := A.slot (by decide +kernel)
  have s3 : Slot X 3 "name" := A.slot (by decide +kernel)
  obtain ⟨fi, c, rfl, q⟩ := hT
  refine ex_open (by rfl) ?_
  repeat walk_at "sx"
  refine ex_for C (bnd_name C.nd s3) (pk_sl ?_) (by intro _; rfl)
  repeat walk_at "sx"
  try refine ⟨none_in, ?_⟩
  repeat walk_at "sx"
theorem m_Finder_own {P : Program} {w : World} {K : PySem.W.Frag} {mg : Str → Option Value} {base : Heap} (E : Fx w K mg) : Mfn P w K mg base (He.ga K "Finder") "own" 1 (T_Finder_own K) := by
  obtain ⟨hm, fd, F⟩ := E.m_Finder_own
  refine ⟨⟨_, fd, ["self", "node", "names"], def_okF (N := ["self", "node", "names", "name"]) F ⟨rfl, rfl, rfl, by decide +kernel, rfl, by decide +kernel, by decide +kernel⟩ (fun ys M k h => ?_) (fun X C A ys M k h => w_Finder_own E C A h), hm, F.bindsN fun _ _ _ _ _ _ us hl => match us, hl with | [_, _, _], _ => rfl⟩, E.c_Finder.2.2⟩
  unfold T_Finder_own at h
  first | (obtain ⟨h, _⟩ := h; rw [h]; rfl) | (obtain ⟨_, h, _⟩ := h; rw [h]; rfl) | (obtain ⟨_, _, h, _⟩ := h; rw [h]; rfl) | (obtain ⟨_, _, _, h, _⟩ := h; rw [h]; rfl) | (obtain ⟨_, _, _, _, h, _⟩ := h; rw [h]; rfl) | (obtain ⟨_, _, _, _, _, h, _⟩ := h; rw [h]; rfl) | (obtain ⟨_, _, _, _, _, _, h, _⟩ := h; rw [h]; rfl) | (obtain ⟨_, _, _, _, _, _, _, h, _⟩ := h; rw [h]; rfl) | (obtain ⟨_, _, _, _, _, _, _, _, h, _⟩ := h; rw [h]; rfl) | (obtain ⟨_, _, _, _, _, _, _, _, _, h, _⟩ := h; rw [h]; rfl) | (obtain ⟨_, _, _, _, _, _, _, _, _, _, h, _⟩ := h; rw [h]; rfl) | (obtain ⟨_, _, _, _, _, _, _, _, _, _, _, h, _⟩ := h; rw [h]; rfl) | (obtain ⟨_, _, _, _, _, _, _, _, _, _, _, _, h, _⟩ := h; rw [h]; rfl)
def T_Finder_within (K : PySem.W.Frag) : Tr := fun ys M k => ∃ (fi : Addr) (c a b : Int), ys = [.v (.ref fi), .d (.int c), .d (lenD a), .d (lenD b)] ∧ a ≤ b ∧ k (.d .none) M
theorem w_Finder_within {P : Program} {w : World} {K : PySem.W.Frag} {mg : Str → Option Value} {base : Heap} (E : Fx w K mg) {X : Cx} (C : Cxi X P w K mg base 3) (A : At X ["self", "node", "one", "other", "numbers"] (defScope (inClass (top 114) 4)) true) {ys : List Sy} {M : Mem} {k : Sy → Mem → Prop} (hT : T_Finder_within K ys M k) :
    ExK X (startG ["self", "node", "one", "other", "numbers"] ys) M (defBody (inClass (top 114) 4)) { nx := fun _ M' => Fz k (.d .none) M', rt := Fz k } := by
  have s0 : Slot X 0 "self" := A.slot (by decide +kernel)
  have s1 : Slot X 1 "node" := A.slot (by decide +kernel)
  have s2 : Slot X 2 "one" := A.slot (by decide +kernel)
  have s3 : Slot X 3 "other" := A.slot (by decide +kernel)
  have s4 : Slot X 4 "numbers" := A.slot (by decide +kernel)
  have d_exceeding := d_exceeding (P := P) (w := w) (K := K) (mg := mg) (base := base) E
  obtain ⟨fi, c, a, b, rfl, h0, q⟩ := hT
  refine ex_open (by rfl) ?_
  repeat walk_at "sx"
theorem m_Finder_within {P : Program} {w : World} {K : PySem.W.Frag} {mg : Str → Option Value} {base : Heap} (E : Fx w K mg) : Mfn P w K mg base (He.ga K "Finder") "within" 4 (T_Finder_within K) := by
  obtain ⟨hm, fd, F⟩ := E.m_Finder_within
  refine ⟨⟨_, fd, ["self", "node", "one", "other"], def_okF (N := ["self", "node", "one", "other", "numbers"]) F ⟨rfl, rfl, rfl, by decide +kernel, rfl, by decide +kernel, by decide +kernel⟩ (fun ys M k h => ?_) (fun X C A ys M k h => w_Finder_within E C A h), hm, F.bindsN fun _ _ _ _ _ _ us hl => match us, hl with | [_, _, _, _], _ => rfl⟩, E.c_Finder.2.2⟩
  unfold T_Finder_within at h
  first | (obtain ⟨h, _⟩ := h; rw [h]; rfl) | (obtain ⟨_, h, _⟩ := h; rw [h]; rfl) | (obtain ⟨_, _, h, _⟩ := h; rw [h]; rfl) | (obtain ⟨_, _, _, h, _⟩ := h; rw [h]; rfl) | (obtain ⟨_, _, _, _, h, _⟩ := h; rw [h]; rfl) | (obtain ⟨_, _, _, _, _, h, _⟩ := h; rw [h]; rfl) | (obtain ⟨_, _, _, _, _, _, h, _⟩ := h; rw [h]; rfl) | (obtain ⟨_, _, _, _, _, _, _, h, _⟩ := h; rw [h]; rfl) | (obtain ⟨_, _, _, _, _, _, _, _, h, _⟩ := h; rw [h]; rfl) | (obtain ⟨_, _, _, _, _, _, _, _, _, h, _⟩ := h; rw [h]; rfl) | (obtain ⟨_, _, _, _, _, _, _, _, _, _, h, _⟩ := h; rw [h]; rfl) | (obtain ⟨_, _, _, _, _, _, _, _, _, _, _, h, _⟩ := h; rw [h]; rfl) | (obtain ⟨_, _, _, _, _, _, _, _, _, _, _, _, h, _⟩ := h; rw [h]; rfl)
def T_Finder_same (K : PySem.W.Frag) : Tr := fun ys M k => ∃ (fi : Addr) (c : Int) (κ : Kd), ys = [.v (.ref fi), .d (.int c), .d (encK κ), .d (encK κ)] ∧ k (.d (encK κ)) M
theorem w_Finder_same {P : Program} {w : World} {K : PySem.W.Frag} {mg : Str → Option Value} {base : Heap} (E : Fx w K mg) {X : Cx} (C : Cxi X P w K mg base 2) (A : At X ["self", "node", "one", "other", "fault"] (defScope (inClass (top 114) 6)) true) {ys : List Sy} {M : Mem} {k : Sy → Mem → Prop} (hT : T_Finder_same K ys M k) :
    ExK X (startG ["self", "node", "one", "other", "fault"] ys) M (defBody (inClass (top 114) 6)) { nx := fun _ M' => Fz k (.d .none) M', rt := Fz k } := by
  have s0 : Slot X 0 "self" := A.slot (by decide +kernel)
  have s1 : Slot X 1 "node" := A.slot (by decide +kernel)
  have s2 : Slot X 2 "one" := A.slot (by decide +kernel)
  have s3 : Slot X 3 "other" := A.slot (by decide +kernel)
  have s4 : Slot X 4 "fault" := A.slot (by decide +kernel)
  have d_held := d_held (P := P) (w := w) (K := K) (mg := mg) (base := base) E
  obtain ⟨fi, c, κ, rfl, q⟩ := hT
  refine ex_open (by rfl) ?_
  repeat walk_at "sx"
  refine ok_eqD C (by decide +kernel) (by decide +kernel) ?_
  rw [no_unlike]
  repeat walk_at "sx"
theorem m_Finder_same {P : Program} {w : World} {K : PySem.W.Frag} {mg : Str → Option Value} {base : Heap} (E : Fx w K mg) : Mfn P w K mg base (He.ga K "Finder") "same" 3 (T_Finder_same K) := by
  obtain ⟨hm, fd, F⟩ := E.m_Finder_same
  refine ⟨⟨_, fd, ["self", "node", "one", "other"], def_okF (N := ["self", "node", "one", "other", "fault"]) F ⟨rfl, rfl, rfl, by decide +kernel, rfl, by decide +kernel, by decide +kernel⟩ (fun ys M k h => ?_) (fun X C A ys M k h => w_Finder_same E C A h), hm, F.bindsN fun _ _ _ _ _ _ us hl => match us, hl with | [_, _, _, _], _ => rfl⟩, E.c_Finder.2.2⟩
  unfold T_Finder_same at h
  first | (obtain ⟨h, _⟩ := h; rw [h]; rfl) | (obtain ⟨_, h, _⟩ := h; rw [h]; rfl) | (obtain ⟨_, _, h, _⟩ := h; rw [h]; rfl) | (obtain ⟨_, _, _, h, _⟩ := h; rw [h]; rfl) | (obtain ⟨_, _, _, _, h, _⟩ := h; rw [h]; rfl) | (obtain ⟨_, _, _, _, _, h, _⟩ := h; rw [h]; rfl) | (obtain ⟨_, _, _, _, _, _, h, _⟩ := h; rw [h]; rfl) | (obtain ⟨_, _, _, _, _, _, _, h, _⟩ := h; rw [h]; rfl) | (obtain ⟨_, _, _, _, _, _, _, _, h, _⟩ := h; rw [h]; rfl) | (obtain ⟨_, _, _, _, _, _, _, _, _, h, _⟩ := h; rw [h]; rfl) | (obtain ⟨_, _, _, _, _, _, _, _, _, _, h, _⟩ := h; rw [h]; rfl) | (obtain ⟨_, _, _, _, _, _, _, _, _, _, _, h, _⟩ := h; rw [h]; rfl) | (obtain ⟨_, _, _, _, _, _, _, _, _, _, _, _, h, _⟩ := h; rw [h]; rfl)
def T_Finder_wanted (K : PySem.W.Frag) (h : Nat) : Tr := fun ys M k => Stop (∃ (e : Ex) (fi fo kd dx : Addr) (r c : Int) (nk : Nat) (mm : List Key → Option PyData) (g : Gm) (nn : Nat) (sm : Key → Option PyData) (κ : Kd) (node : Int), ys = [.v (.ref fi), .d (enc e), .dk nn sm, .d (.str (kword κ)), .d (.int node)] ∧ (ht e ≤ h ∧ KGo K M fi fo kd dx r c nk mm e g nn sm κ) ∧ ∀ M' mm', Aft K M M' fi fo kd dx r c (c + (sz e : Nat)) nk (nk + sz e) mm mm' → Kn mm' r (c + 1) e → k (.d (encK κ)) M')
theorem w_Finder_wanted {P : Program} {w : World} {K : PySem.W.Frag} {mg : Str → Option Value} {base : Heap} (E : Fx w K mg) {h j : Nat} (hc : Mfn P w K mg base (He.ga K "Finder") "kind_of" j (T_kindof K h)) (hj : 8 ≤ j) {X : Cx} (C : Cxi X P w K mg base (j)) (A : At X ["self", "part", "scope", "word", "node", "kind"] (defScope (inClass (top 114) 3)) true) {ys : List Sy} {M : Mem} {k : Sy → Mem → Prop} (hT : T_Finder_wanted K h ys M k) :
    ExK X (startG ["self", "part", "scope", "word", "node", "kind"] ys) M (defBody (inClass (top 114) 3)) { nx := fun _ M' => Fz k (.d .none) M', rt := Fz k } := by
  have s0 : Slot X 0 "self" := A.slot (by decide +kernel)
  have s1 : Slot X 1 "part" := A.slot (by decide +kernel)
  have s2 : Slot X 2 "scope" := A.slot (by decide +kernel)
  have s3 : Slot X 3 "word" := A.slot (by decide +kernel)
  have s4 : Slot X 4 "node" := A.slot (by decide +kernel)
  have s5 : Slot X 5 "kind" := A.slot (by decide +kernel)
  obtain ⟨e, fi, fo, kd, dx, r, c, nk, mm, g, nn, sm, κ, node, rfl, ⟨hh, F, hTy, hS, hn, hk2⟩, q⟩ := hT.go
  rcases κ with _ | n
  all_goals
    dsimp only [kword]
    refine ex_open (by rfl) ?_
    repeat walk_at "sx"
    refine .mk ⟨_, _, _, rfl, F.fi_, fl_kind_of, ?_⟩
    repeat walk_at "sx"
    refine .mk ⟨e, fi, fo, kd, dx, r, c, nk, mm, g, nn, sm, _, rfl, ⟨hh, F, hTy, hS, hn, hk2⟩, fun M1 mm1 A1 K1 => ?_⟩
    dsimp only [encK]
    repeat walk_at "sx"
    exact .is (q _ _ A1 K1)
theorem m_Finder_wanted {P : Program} {w : World} {K : PySem.W.Frag} {mg : Str → Option Value} {base : Heap} (E : Fx w K mg) {h j : Nat} (hc : Mfn P w K mg base (He.ga K "Finder") "kind_of" j (T_kindof K h)) (hj : 8 ≤ j) : Mfn P w K mg base (He.ga K "Finder") "wanted" (j + 1) (T_Finder_wanted K h) := by
  obtain ⟨hm, fd, F⟩ := E.m_Finder_wanted
  refine ⟨⟨_, fd, ["self", "part", "scope", "word", "node"], def_okF (N := ["self", "part", "scope", "word", "node", "kind"]) F ⟨rfl, rfl, rfl, by decide +kernel, rfl, by decide +kernel, by decide +kernel⟩ (fun ys M k h => ?_) (fun X C A ys M k h => w_Finder_wanted E hc hj C A h), hm, F.bindsN fun _ _ _ _ _ _ us hl => match us, hl with | [_, _, _, _, _], _ => rfl⟩, E.c_Finder.2.2⟩
  replace h := Stop.go h
  first | (obtain ⟨h, _⟩ := h; rw [h]; rfl) | (obtain ⟨_, h, _⟩ := h; rw [h]; rfl) | (obtain ⟨_, _, h, _⟩ := h; rw [h]; rfl) | (obtain ⟨_, _, _, h, _⟩ := h; rw [h]; rfl) | (obtain ⟨_, _, _, _, h, _⟩ := h; rw [h]; rfl) | (obtain ⟨_, _, _, _, _, h, _⟩ := h; rw [h]; rfl) | (obtain ⟨_, _, _, _, _, _, h, _⟩ := h; rw [h]; rfl) | (obtain ⟨_, _, _, _, _, _, _, h, _⟩ := h; rw [h]; rfl) | (obtain ⟨_, _, _, _, _, _, _, _, h, _⟩ := h; rw [h]; rfl) | (obtain ⟨_, _, _, _, _, _, _, _, _, h, _⟩ := h; rw [h]; rfl) | (obtain ⟨_, _, _, _, _, _, _, _, _, _, h, _⟩ := h; rw [h]; rfl) | (obtain ⟨_, _, _, _, _, _, _, _, _, _, _, h, _⟩ := h; rw [h]; rfl) | (obtain ⟨_, _, _, _, _, _, _, _, _, _, _, _, h, _⟩ := h; rw [h]; rfl) | (obtain ⟨_, _, _, _, _, _, _, _, _, _, _, _, _, h, _⟩ := h; rw [h]; rfl) | (obtain ⟨_, _, _, _, _, _, _, _, _, _, _, _, _, _, h, _⟩ := h; rw [h]; rfl) | (obtain ⟨_, _, _, _, _, _, _, _, _, _, _, _, _, _, _, h, _⟩ := h; rw [h]; rfl) | (obtain ⟨_, _, _, _, _, _, _, _, _, _, _, _, _, _, _, _, h, _⟩ := h; rw [h]; rfl) | (obtain ⟨_, _, _, _, _, _, _, _, _, _, _, _, _, _, _, _, _, h, _⟩ := h; rw [h]; rfl) | (obtain ⟨_, _, _, _, _, _, _, _, _, _, _, _, _, _, _, _, _, _, h, _⟩ := h; rw [h]; rfl) | (obtain ⟨_, _, _, _, _, _, _, _, _, _, _, _, _, _, _, _, _, _, _, h, _⟩ := h; rw [h]; rfl)
def T_whole_kind : Tr := fun ys M k => Stop (∃ (fi : Addr) (d : PyData) (c : Int) (nn : Nat) (sm : Key → Option PyData), ys = [.v (.ref fi), .d d, .d (.int c), .dk nn sm] ∧ k (.d (.tuple [.str "whole"])) M)
theorem w_whole_kind {P : Program} {w : World} {K : PySem.W.Frag} {mg : Str → Option Value} {base : Heap} (E : Fx w K mg) {X : Cx} (C : Cxi X P w K mg base 0) (A : At X ["finder", "expression", "node", "scope"] (defScope (top 115)) true) {ys : List Sy} {M : Mem} {k : Sy → Mem → Prop} (hT : T_whole_kind ys M k) :
    ExK X (startG ["finder", "expression", "node", "scope"] ys) M (defBody (top 115)) { nx := fun _ M' => Fz k (.d .none) M', rt := Fz k } := by
  have s0 : Slot X 0 "finder" := A.slot (by decide +kernel)
  have s1 : Slot X 1 "expression" := A.slot (by decide +kernel)
  have s2 : Slot X 2 "node" := A.slot (by decide +kernel)
  have s3 : Slot X 3 "scope" := A.slot (by decide +kernel)
  have g_WHOLE := E.g_WHOLE
  obtain ⟨fi, d, c, nn, sm, rfl, q⟩ := hT.go
  refine ex_open (by rfl) ?_
  repeat walk_at "sx"
theorem a_whole_kind {P : Program} {w : World} {K : PySem.W.Frag} {mg : Str → Option Value} {base : Heap} (E : Fx w K mg) : Fat P w K mg base (He.ga K "whole_kind") 1 T_whole_kind := by
  obtain ⟨hm, fd, F⟩ := E.f_whole_kind
  refine ⟨⟨fd, ["finder", "expression", "node", "scope"], def_okF (N := ["finder", "expression", "node", "scope"]) F ⟨rfl, rfl, rfl, by decide +kernel, rfl, by decide +kernel, by decide +kernel⟩ (fun ys M k h => ?_) (fun X C A ys M k h => w_whole_kind E C A h), F.kp, F.bindsN fun _ _ _ _ _ _ us hl => match us, hl with | [_, _, _, _], _ => rfl⟩⟩
  replace h := Stop.go h
  first | (obtain ⟨_, h, _⟩ := h; rw [h]; rfl) | (obtain ⟨_, _, h, _⟩ := h; rw [h]; rfl) | (obtain ⟨_, _, _, h, _⟩ := h; rw [h]; rfl) | (obtain ⟨_, _, _, _, h, _⟩ := h; rw [h]; rfl) | (obtain ⟨_, _, _, _, _, h, _⟩ := h; rw [h]; rfl) | (obtain ⟨_, _, _, _, _, _, h, _⟩ := h; rw [h]; rfl) | (obtain ⟨_, _, _, _, _, _, _, h, _⟩ := h; rw [h]; rfl) | (obtain ⟨_, _, _, _, _, _, _, _, h, _⟩ := h; rw [h]; rfl)
theorem d_whole_kind {P : Program} {w : World} {K : PySem.W.Frag} {mg : Str → Option Value} {base : Heap} (E : Fx w K mg) : Dfn P w K mg base "whole_kind" 1 T_whole_kind := by
  obtain ⟨fd, ps, F, hk, hb⟩ := (a_whole_kind (P := P) (base := base) E).ex
  exact ⟨⟨_, fd, ps, F, E.f_whole_kind.1, hk, hb⟩, by decide⟩
def T_length_kind (K : PySem.W.Frag) : Tr := fun ys M k => Stop (∃ (fi fo dx : Addr) (r c n c0 : Int) (nn : Nat) (sm : Key → Option PyData), ys = [.v (.ref fi), .d (.tuple [.str "length", lenD n]), .d (.int c0), .dk nn sm] ∧ M fi = some (.ins (He.ga K "Finder") dx (finO fo r c)) ∧ k (.d (.tuple [.str "whole"])) M)
theorem w_length_kind {P : Program} {w : World} {K : PySem.W.Frag} {mg : Str → Option Value} {base : Heap} (E : Fx w K mg)  {X : Cx} (C : Cxi X P w K mg base (8)) (A : At X ["finder", "expression", "node", "scope"] (defScope (top 116)) true) {ys : List Sy} {M : Mem} {k : Sy → Mem → Prop} (hT : T_length_kind K ys M k) :
    ExK X (startG ["finder", "expression", "node", "scope"] ys) M (defBody (top 116)) { nx := fun _ M' => Fz k (.d .none) M', rt := Fz k } := by
  have s0 : Slot X 0 "finder" := A.slot (by decide +kernel)
  have s1 : Slot X 1 "expression" := A.slot (by decide +kernel)
  have s2 : Slot X 2 "node" := A.slot (by decide +kernel)
  have s3 : Slot X 3 "scope" := A.slot (by decide +kernel)
  have d_names_of := d_names_of (P := P) (w := w) (K := K) (mg := mg) (base := base) E
  have g_WHOLE := E.g_WHOLE
  obtain ⟨fi, fo, dx, r, c, n, c0, nn, sm, rfl, hfi, q⟩ := hT.go
  have mo := m_Finder_own (P := P) (base := base) E
  have mw := m_Finder_within (P := P) (base := base) E
  refine ex_open (by rfl) ?_
  repeat walk_at "sx"
  refine .mk ⟨_, _, _, rfl, hfi, fl_own, ?_⟩
  repeat walk_at "sx"
theorem a_length_kind {P : Program} {w : World} {K : PySem.W.Frag} {mg : Str → Option Value} {base : Heap} (E : Fx w K mg)  : Fat P w K mg base (He.ga K "length_kind") (8 + 1) (T_length_kind K) := by
  obtain ⟨hm, fd, F⟩ := E.f_length_kind
  refine ⟨⟨fd, ["finder", "expression", "node", "scope"], def_okF (N := ["finder", "expression", "node", "scope"]) F ⟨rfl, rfl, rfl, by decide +kernel, rfl, by decide +kernel, by decide +kernel⟩ (fun ys M k h => ?_) (fun X C A ys M k h => w_length_kind E  C A h), F.kp, F.bindsN fun _ _ _ _ _ _ us hl => match us, hl with | [_, _, _, _], _ => rfl⟩⟩
  replace h := Stop.go h
  first | (obtain ⟨h, _⟩ := h; rw [h]; rfl) | (obtain ⟨_, h, _⟩ := h; rw [h]; rfl) | (obtain ⟨_, _, h, _⟩ := h; rw [h]; rfl) | (obtain ⟨_, _, _, h, _⟩ := h; rw [h]; rfl) | (obtain ⟨_, _, _, _, h, _⟩ := h; rw [h]; rfl) | (obtain ⟨_, _, _, _, _, h, _⟩ := h; rw [h]; rfl) | (obtain ⟨_, _, _, _, _, _, h, _⟩ := h; rw [h]; rfl) | (obtain ⟨_, _, _, _, _, _, _, h, _⟩ := h; rw [h]; rfl) | (obtain ⟨_, _, _, _, _, _, _, _, h, _⟩ := h; rw [h]; rfl) | (obtain ⟨_, _, _, _, _, _, _, _, _, h, _⟩ := h; rw [h]; rfl) | (obtain ⟨_, _, _, _, _, _, _, _, _, _, h, _⟩ := h; rw [h]; rfl) | (obtain ⟨_, _, _, _, _, _, _, _, _, _, _, h, _⟩ := h; rw [h]; rfl) | (obtain ⟨_, _, _, _, _, _, _, _, _, _, _, _, h, _⟩ := h; rw [h]; rfl) | (obtain ⟨_, _, _, _, _, _, _, _, _, _, _, _, _, h, _⟩ := h; rw [h]; rfl) | (obtain ⟨_, _, _, _, _, _, _, _, _, _, _, _, _, _, h, _⟩ := h; rw [h]; rfl) | (obtain ⟨_, _, _, _, _, _, _, _, _, _, _, _, _, _, _, h, _⟩ := h; rw [h]; rfl) | (obtain ⟨_, _, _, _, _, _, _, _, _, _, _, _, _, _, _, _, h, _⟩ := h; rw [h]; rfl) | (obtain ⟨_, _, _, _, _, _, _, _, _, _, _, _, _, _, _, _, _, h, _⟩ := h; rw [h]; rfl) | (obtain ⟨_, _, _, _, _, _, _, _, _, _, _, _, _, _, _, _, _, _, h, _⟩ := h; rw [h]; rfl) | (obtain ⟨_, _, _, _, _, _, _, _, _, _, _, _, _, _, _, _, _, _, _, h, _⟩ := h; rw [h]; rfl)
def T_name_kind : Tr := fun ys M k => Stop (∃ (fi : Addr) (x : Str) (c : Int) (nn : Nat) (sm : Key → Option PyData) (d : PyData), ys = [.v (.ref fi), .d (.tuple [.str "name", .str x]), .d (.int c), .dk nn sm] ∧ sm (.inr x) = some d ∧ k (.d d) M)
theorem w_name_kind {P : Program} {w : World} {K : PySem.W.Frag} {mg : Str → Option Value} {base : Heap} (E : Fx w K mg) {X : Cx} (C : Cxi X P w K mg base 0) (A : At X ["finder", "expression", "node", "scope"] (defScope (top 117)) true) {ys : List Sy} {M : Mem} {k : Sy → Mem → Prop} (hT : T_name_kind ys M k) :
    ExK X (startG ["finder", "expression", "node", "scope"] ys) M (defBody (top 117)) { nx := fun _ M' => Fz k (.d .none) M', rt := Fz k } := by
  have s0 : Slot X 0 "finder" := A.slot (by decide +kernel)
  have s1 : Slot X 1 "expression" := A.slot (by decide +kernel)
  have s2 : Slot X 2 "node" := A.slot (by decide +kernel)
  have s3 : Slot X 3 "scope" := A.slot (by decide +kernel)
  obtain ⟨fi, x, c, nn, sm, d, rfl, h1, q⟩ := hT.go
  refine ex_open (by rfl) ?_
  repeat walk_at "sx"
  refine ok_notInDk C ?_
  rw [h1]
  repeat walk_at "sx"
  refine it_dkS C h1 ?_
  repeat walk_at "sx"
theorem a_name_kind {P : Program} {w : World} {K : PySem.W.Frag} {mg : Str → Option Value} {base : Heap} (E : Fx w K mg) : Fat P w K mg base (He.ga K "name_kind") 1 T_name_kind := by
  obtain ⟨hm, fd, F⟩ := E.f_name_kind
  refine ⟨⟨fd, ["finder", "expression", "node", "scope"], def_okF (N := ["finder", "expression", "node", "scope"]) F ⟨rfl, rfl, rfl, by decide +kernel, rfl, by decide +kernel, by decide +kernel⟩ (fun ys M k h => ?_) (fun X C A ys M k h => w_name_kind E C A h), F.kp, F.bindsN fun _ _ _ _ _ _ us hl => match us, hl with | [_, _, _, _], _ => rfl⟩⟩
  replace h := Stop.go h
  first | (obtain ⟨_, h, _⟩ := h; rw [h]; rfl) | (obtain ⟨_, _, h, _⟩ := h; rw [h]; rfl) | (obtain ⟨_, _, _, h, _⟩ := h; rw [h]; rfl) | (obtain ⟨_, _, _, _, h, _⟩ := h; rw [h]; rfl) | (obtain ⟨_, _, _, _, _, h, _⟩ := h; rw [h]; rfl) | (obtain ⟨_, _, _, _, _, _, h, _⟩ := h; rw [h]; rfl) | (obtain ⟨_, _, _, _, _, _, _, h, _⟩ := h; rw [h]; rfl) | (obtain ⟨_, _, _, _, _, _, _, _, h, _⟩ := h; rw [h]; rfl)
theorem d_name_kind {P : Program} {w : World} {K : PySem.W.Frag} {mg : Str → Option Value} {base : Heap} (E : Fx w K mg) : Dfn P w K mg base "name_kind" 1 T_name_kind := by
  obtain ⟨fd, ps, F, hk, hb⟩ := (a_name_kind (P := P) (base := base) E).ex
  exact ⟨⟨_, fd, ps, F, E.f_name_kind.1, hk, hb⟩, by decide⟩
def T_place_kind (K : PySem.W.Frag) : Tr := fun ys M k => Stop (∃ (fi fo dx : Addr) (r c a b c0 : Int) (nn : Nat) (sm : Key → Option PyData), ys = [.v (.ref fi), .d (.tuple [.str "place", lenD a, lenD b]), .d (.int c0), .dk nn sm] ∧ (M fi = some (.ins (He.ga K "Finder") dx (finO fo r c)) ∧ a + 1 ≤ b) ∧ k (.d (.tuple [.str "place", lenD b])) M)
theorem w_place_kind {P : Program} {w : World} {K : PySem.W.Frag} {mg : Str → Option Value} {base : Heap} (E : Fx w K mg)  {X : Cx} (C : Cxi X P w K mg base (8)) (A : At X ["finder", "expression", "node", "scope", "word", "length", "below"] (defScope (top 132)) true) {ys : List Sy} {M : Mem} {k : Sy → Mem → Prop} (hT : T_place_kind K ys M k) :
    ExK X (startG ["finder", "expression", "node", "scope", "word", "length", "below"] ys) M (defBody (top 132)) { nx := fun _ M' => Fz k (.d .none) M', rt := Fz k } := by
  have s0 : Slot X 0 "finder" := A.slot (by decide +kernel)
  have s1 : Slot X 1 "expression" := A.slot (by decide +kernel)
  have s2 : Slot X 2 "node" := A.slot (by decide +kernel)
  have s3 : Slot X 3 "scope" := A.slot (by decide +kernel)
  have s4 : Slot X 4 "word" := A.slot (by decide +kernel)
  have s5 : Slot X 5 "length" := A.slot (by decide +kernel)
  have s6 : Slot X 6 "below" := A.slot (by decide +kernel)
  have d_names_of := d_names_of (P := P) (w := w) (K := K) (mg := mg) (base := base) E
  have d_added := d_added (P := P) (w := w) (K := K) (mg := mg) (base := base) E
  have d_of_number := d_of_number (P := P) (w := w) (K := K) (mg := mg) (base := base) E
  obtain ⟨fi, fo, dx, r, c, a, b, c0, nn, sm, rfl, ⟨hfi, hab⟩, q⟩ := hT.go
  have mo := m_Finder_own (P := P) (base := base) E
  have mw := m_Finder_within (P := P) (base := base) E
  refine ex_open (by rfl) ?_
  repeat walk_at "sx"
  refine .mk ⟨_, _, _, rfl, hfi, fl_own, ?_⟩
  repeat walk_at "sx"
  refine .mk ⟨_, _, _, rfl, hfi, fl_within, ?_⟩
  repeat walk_at "sx"
theorem a_place_kind {P : Program} {w : World} {K : PySem.W.Frag} {mg : Str → Option Value} {base : Heap} (E : Fx w K mg)  : Fat P w K mg base (He.ga K "place_kind") (8 + 1) (T_place_kind K) := by
  obtain ⟨hm, fd, F⟩ := E.f_place_kind
  refine ⟨⟨fd, ["finder", "expression", "node", "scope"], def_okF (N := ["finder", "expression", "node", "scope", "word", "length", "below"]) F ⟨rfl, rfl, rfl, by decide +kernel, rfl, by decide +kernel, by decide +kernel⟩ (fun ys M k h => ?_) (fun X C A ys M k h => w_place_kind E  C A h), F.kp, F.bindsN fun _ _ _ _ _ _ us hl => match us, hl with | [_, _, _, _], _ => rfl⟩⟩
  replace h := Stop.go h
  first | (obtain ⟨h, _⟩ := h; rw [h]; rfl) | (obtain ⟨_, h, _⟩ := h; rw [h]; rfl) | (obtain ⟨_, _, h, _⟩ := h; rw [h]; rfl) | (obtain ⟨_, _, _, h, _⟩ := h; rw [h]; rfl) | (obtain ⟨_, _, _, _, h, _⟩ := h; rw [h]; rfl) | (obtain ⟨_, _, _, _, _, h, _⟩ := h; rw [h]; rfl) | (obtain ⟨_, _, _, _, _, _, h, _⟩ := h; rw [h]; rfl) | (obtain ⟨_, _, _, _, _, _, _, h, _⟩ := h; rw [h]; rfl) | (obtain ⟨_, _, _, _, _, _, _, _, h, _⟩ := h; rw [h]; rfl) | (obtain ⟨_, _, _, _, _, _, _, _, _, h, _⟩ := h; rw [h]; rfl) | (obtain ⟨_, _, _, _, _, _, _, _, _, _, h, _⟩ := h; rw [h]; rfl) | (obtain ⟨_, _, _, _, _, _, _, _, _, _, _, h, _⟩ := h; rw [h]; rfl) | (obtain ⟨_, _, _, _, _, _, _, _, _, _, _, _, h, _⟩ := h; rw [h]; rfl) | (obtain ⟨_, _, _, _, _, _, _, _, _, _, _, _, _, h, _⟩ := h; rw [h]; rfl) | (obtain ⟨_, _, _, _, _, _, _, _, _, _, _, _, _, _, h, _⟩ := h; rw [h]; rfl) | (obtain ⟨_, _, _, _, _, _, _, _, _, _, _, _, _, _, _, h, _⟩ := h; rw [h]; rfl) | (obtain ⟨_, _, _, _, _, _, _, _, _, _, _, _, _, _, _, _, h, _⟩ := h; rw [h]; rfl) | (obtain ⟨_, _, _, _, _, _, _, _, _, _, _, _, _, _, _, _, _, h, _⟩ := h; rw [h]; rfl) | (obtain ⟨_, _, _, _, _, _, _, _, _, _, _, _, _, _, _, _, _, _, h, _⟩ := h; rw [h]; rfl) | (obtain ⟨_, _, _, _, _, _, _, _, _, _, _, _, _, _, _, _, _, _, _, h, _⟩ := h; rw [h]; rfl)
def T_reckon_kind (K : PySem.W.Frag) (h : Nat) : Tr := fun ys M k => Stop (∃ (w1 : Str) (a b : Ex) (fi fo kd dx : Addr) (r c : Int) (nk : Nat) (mm : List Key → Option PyData) (g : Gm) (nn : Nat) (sm : Key → Option PyData) (κ : Kd), ys = [.v (.ref fi), .d (.tuple [.str "reckon", .str w1, enc a, enc b]), .d (.int c), .dk nn sm] ∧ (ht (.rk w1 a b) ≤ h + 1 ∧ KGo K M fi fo kd dx r c nk mm (.rk w1 a b) g nn sm κ) ∧ ∀ M' mm', Aft K M M' fi fo kd dx r c (c + (sz (.rk w1 a b) : Nat) - 1) nk (nk + sz (.rk w1 a b) - 1) mm mm' → KnK mm' r c (.rk w1 a b) → k (.d (encK κ)) M')
theorem w_reckon_kind {P : Program} {w : World} {K : PySem.W.Frag} {mg : Str → Option Value} {base : Heap} (E : Fx w K mg) {h j : Nat} (hc : Mfn P w K mg base (He.ga K "Finder") "kind_of" j (T_kindof K h)) (hj : 8 ≤ j) {X : Cx} (C : Cxi X P w K mg base (j + 1)) (A : At X ["finder", "expression", "node", "scope"] (defScope (top 118)) true) {ys : List Sy} {M : Mem} {k : Sy → Mem → Prop} (hT : T_reckon_kind K h ys M k) :
    ExK X (startG ["finder", "expression", "node", "scope"] ys) M (defBody (top 118)) { nx := fun _ M' => Fz k (.d .none) M', rt := Fz k } := by
  have s0 : Slot X 0 "finder" := A.slot (by decide +kernel)
  have s1 : Slot X 1 "expression" := A.slot (by decide +kernel)
  have s2 : Slot X 2 "node" := A.slot (by decide +kernel)
  have s3 : Slot X 3 "scope" := A.slot (by decide +kernel)
  obtain ⟨w1, a, b, fi, fo, kd, dx, r, c, nk, mm, g, nn, sm, κ, rfl, ⟨hh, F, hTy, hS, hn, hk2⟩, q⟩ := hT.go
  simp only [ht, sz, Ty] at hh hTy hn hk2 q
  have mo := m_Finder_own (P := P) (base := base) E
  have mw := m_Finder_within (P := P) (base := base) E
  have ms := m_Finder_same (P := P) (base := base) E
  have mn := m_Finder_wanted (P := P) (base := base) E hc hj
  obtain ⟨rfl, hw, hTa, hTb⟩ := hTy
  refine ex_open (by rfl) ?_
  repeat walk_at "sx"
  refine .mk ⟨_, _, _, rfl, F.fi_, fl_wanted, ?_⟩
  repeat walk_at "sx"
  refine .mk ⟨a, fi, fo, kd, dx, r, _, _, _, g, nn, sm, .whole, _, rfl, ⟨by omega, F, hTa, hS, by omega, by omega⟩, fun M1 mm1 A1 K1 => ?_⟩
  have F1 := F.after A1
  try dsimp only [encK]
  repeat walk_at "sx"
  refine .mk ⟨_, _, _, rfl, F1.fi_, fl_wanted, ?_⟩
  repeat walk_at "sx"
  refine .mk ⟨b, fi, fo, kd, dx, r, _, _, _, g, nn, sm, .whole, _, rfl, ⟨by omega, F1, hTb, hS, by omega, by omega⟩, fun M2 mm2 A2 K2 => ?_⟩
  have F2 := F1.after A2
  try dsimp only [encK]
  repeat walk_at "sx"
  exact .is (q _ _ ((A1.trans A2 (by omega) (by omega)).cast (by omega) (by omega)) ⟨((K1.keep A2 (by omega)).at_ (by omega)), (K2.at_ (by omega))⟩)
theorem a_reckon_kind {P : Program} {w : World} {K : PySem.W.Frag} {mg : Str → Option Value} {base : Heap} (E : Fx w K mg) {h j : Nat} (hc : Mfn P w K mg base (He.ga K "Finder") "kind_of" j (T_kindof K h)) (hj : 8 ≤ j) : Fat P w K mg base (He.ga K "reckon_kind") (j + 1 + 1) (T_reckon_kind K h) := by
  obtain ⟨hm, fd, F⟩ := E.f_reckon_kind
  refine ⟨⟨fd, ["finder", "expression", "node", "scope"], def_okF (N := ["finder", "expression", "node", "scope"]) F ⟨rfl, rfl, rfl, by decide +kernel, rfl, by decide +kernel, by decide +kernel⟩ (fun ys M k h => ?_) (fun X C A ys M k h => w_reckon_kind E hc hj C A h), F.kp, F.bindsN fun _ _ _ _ _ _ us hl => match us, hl with | [_, _, _, _], _ => rfl⟩⟩
  replace h := Stop.go h
  first | (obtain ⟨h, _⟩ := h; rw [h]; rfl) | (obtain ⟨_, h, _⟩ := h; rw [h]; rfl) | (obtain ⟨_, _, h, _⟩ := h; rw [h]; rfl) | (obtain ⟨_, _, _, h, _⟩ := h; rw [h]; rfl) | (obtain ⟨_, _, _, _, h, _⟩ := h; rw [h]; rfl) | (obtain ⟨_, _, _, _, _, h, _⟩ := h; rw [h]; rfl) | (obtain ⟨_, _, _, _, _, _, h, _⟩ := h; rw [h]; rfl) | (obtain ⟨_, _, _, _, _, _, _, h, _⟩ := h; rw [h]; rfl) | (obtain ⟨_, _, _, _, _, _, _, _, h, _⟩ := h; rw [h]; rfl) | (obtain ⟨_, _, _, _, _, _, _, _, _, h, _⟩ := h; rw [h]; rfl) | (obtain ⟨_, _, _, _, _, _, _, _, _, _, h, _⟩ := h; rw [h]; rfl) | (obtain ⟨_, _, _, _, _, _, _, _, _, _, _, h, _⟩ := h; rw [h]; rfl) | (obtain ⟨_, _, _, _, _, _, _, _, _, _, _, _, h, _⟩ := h; rw [h]; rfl) | (obtain ⟨_, _, _, _, _, _, _, _, _, _, _, _, _, h, _⟩ := h; rw [h]; rfl) | (obtain ⟨_, _, _, _, _, _, _, _, _, _, _, _, _, _, h, _⟩ := h; rw [h]; rfl) | (obtain ⟨_, _, _, _, _, _, _, _, _, _, _, _, _, _, _, h, _⟩ := h; rw [h]; rfl) | (obtain ⟨_, _, _, _, _, _, _, _, _, _, _, _, _, _, _, _, h, _⟩ := h; rw [h]; rfl) | (obtain ⟨_, _, _, _, _, _, _, _, _, _, _, _, _, _, _, _, _, h, _⟩ := h; rw [h]; rfl) | (obtain ⟨_, _, _, _, _, _, _, _, _, _, _, _, _, _, _, _, _, _, h, _⟩ := h; rw [h]; rfl) | (obtain ⟨_, _, _, _, _, _, _, _, _, _, _, _, _, _, _, _, _, _, _, h, _⟩ := h; rw [h]; rfl)
def T_if_kind (K : PySem.W.Frag) (h : Nat) : Tr := fun ys M k => Stop (∃ (a b d : Ex) (fi fo kd dx : Addr) (r c : Int) (nk : Nat) (mm : List Key → Option PyData) (g : Gm) (nn : Nat) (sm : Key → Option PyData) (κ : Kd), ys = [.v (.ref fi), .d (.tuple [.str "if", enc a, enc b, enc d]), .d (.int c), .dk nn sm] ∧ (ht (.ite a b d) ≤ h + 1 ∧ KGo K M fi fo kd dx r c nk mm (.ite a b d) g nn sm κ) ∧ ∀ M' mm', Aft K M M' fi fo kd dx r c (c + (sz (.ite a b d) : Nat) - 1) nk (nk + sz (.ite a b d) - 1) mm mm' → KnK mm' r c (.ite a b d) → k (.d (encK κ)) M')
theorem w_if_kind {P : Program} {w : World} {K : PySem.W.Frag} {mg : Str → Option Value} {base : Heap} (E : Fx w K mg) {h j : Nat} (hc : Mfn P w K mg base (He.ga K "Finder") "kind_of" j (T_kindof K h)) (hj : 8 ≤ j) {X : Cx} (C : Cxi X P w K mg base (j + 1)) (A : At X ["finder", "expression", "node", "scope", "one"] (defScope (top 119)) true) {ys : List Sy} {M : Mem} {k : Sy → Mem → Prop} (hT : T_if_kind K h ys M k) :
    ExK X (startG ["finder", "expression", "node", "scope", "one"] ys) M (defBody (top 119)) { nx := fun _ M' => Fz k (.d .none) M', rt := Fz k } := by
  have s0 : Slot X 0 "finder" := A.slot (by decide +kernel)
  have s1 : Slot X 1 "expression" := A.slot (by decide +kernel)
  have s2 : Slot X 2 "node" := A.slot (by decide +kernel)
  have s3 : Slot X 3 "scope" := A.slot (by decide +kernel)
  have s4 : Slot X 4 "one" := A.slot (by decide +kernel)
  obtain ⟨a, b, d, fi, fo, kd, dx, r, c, nk, mm, g, nn, sm, κ, rfl, ⟨hh, F, hTy, hS, hn, hk2⟩, q⟩ := hT.go
  simp only [ht, sz, Ty] at hh hTy hn hk2 q
  have mo := m_Finder_own (P := P) (base := base) E
  have mw := m_Finder_within (P := P) (base := base) E
  have ms := m_Finder_same (P := P) (base := base) E
  have mn := m_Finder_wanted (P := P) (base := base) E hc hj
  obtain ⟨ho, hTa, hTb, hTc⟩ := hTy
  refine ex_open (by rfl) ?_
  repeat walk_at "sx"
  refine .mk ⟨_, _, _, rfl, F.fi_, fl_wanted, ?_⟩
  repeat walk_at "sx"
  refine .mk ⟨a, fi, fo, kd, dx, r, _, _, _, g, nn, sm, .whole, _, rfl, ⟨by omega, F, hTa, hS, by omega, by omega⟩, fun M1 mm1 A1 K1 => ?_⟩
  have F1 := F.after A1
  try dsimp only [encK]
  repeat walk_at "sx"
  refine .mk ⟨_, _, _, rfl, F1.fi_, fl_kind_of, ?_⟩
  repeat walk_at "sx"
  refine .mk ⟨b, fi, fo, kd, dx, r, _, _, _, g, nn, sm, κ, rfl, ⟨by omega, F1, hTb, hS, by omega, by omega⟩, fun M2 mm2 A2 K2 => ?_⟩
  have F2 := F1.after A2
  repeat walk_at "sx"
  refine .mk ⟨_, _, _, rfl, F2.fi_, fl_same, ?_⟩
  repeat walk_at "sx"
  refine .mk ⟨_, _, _, rfl, F2.fi_, fl_kind_of, ?_⟩
  repeat walk_at "sx"
  refine .mk ⟨d, fi, fo, kd, dx, r, _, _, _, g, nn, sm, κ, rfl, ⟨by omega, F2, hTc, hS, by omega, by omega⟩, fun M3 mm3 A3 K3 => ?_⟩
  have F3 := F2.after A3
  repeat walk_at "sx"
  exact .is (q _ _ (((A1.trans A2 (by omega) (by omega)).trans A3 (by omega) (by omega)).cast (by omega) (by omega)) ⟨(((K1.keep A2 (by omega)).keep A3 (by omega)).at_ (by omega)), ((K2.keep A3 (by omega)).at_ (by omega)), (K3.at_ (by omega))⟩)
theorem a_if_kind {P : Program} {w : World} {K : PySem.W.Frag} {mg : Str → Option Value} {base : Heap} (E : Fx w K mg) {h j : Nat} (hc : Mfn P w K mg base (He.ga K "Finder") "kind_of" j (T_kindof K h)) (hj : 8 ≤ j) : Fat P w K mg base (He.ga K "if_kind") (j + 1 + 1) (T_if_kind K h) := by
  obtain ⟨hm, fd, F⟩ := E.f_if_kind
  refine ⟨⟨fd, ["finder", "expression", "node", "scope"], def_okF (N := ["finder", "expression", "node", "scope", "one"]) F ⟨rfl, rfl, rfl, by decide +kernel, rfl, by decide +kernel, by decide +kernel⟩ (fun ys M k h => ?_) (fun X C A ys M k h => w_if_kind E hc hj C A h), F.kp, F.bindsN fun _ _ _ _ _ _ us hl => match us, hl with | [_, _, _, _], _ => rfl⟩⟩
  replace h := Stop.go h
  first | (obtain ⟨h, _⟩ := h; rw [h]; rfl) | (obtain ⟨_, h, _⟩ := h; rw [h]; rfl) | (obtain ⟨_, _, h, _⟩ := h; rw [h]; rfl) | (obtain ⟨_, _, _, h, _⟩ := h; rw [h]; rfl) | (obtain ⟨_, _, _, _, h, _⟩ := h; rw [h]; rfl) | (obtain ⟨_, _, _, _, _, h, _⟩ := h; rw [h]; rfl) | (obtain ⟨_, _, _, _, _, _, h, _⟩ := h; rw [h]; rfl) | (obtain ⟨_, _, _, _, _, _, _, h, _⟩ := h; rw [h]; rfl) | (obtain ⟨_, _, _, _, _, _, _, _, h, _⟩ := h; rw [h]; rfl) | (obtain ⟨_, _, _, _, _, _, _, _, _, h, _⟩ := h; rw [h]; rfl) | (obtain ⟨_, _, _, _, _, _, _, _, _, _, h, _⟩ := h; rw [h]; rfl) | (obtain ⟨_, _, _, _, _, _, _, _, _, _, _, h, _⟩ := h; rw [h]; rfl) | (obtain ⟨_, _, _, _, _, _, _, _, _, _, _, _, h, _⟩ := h; rw [h]; rfl) | (obtain ⟨_, _, _, _, _, _, _, _, _, _, _, _, _, h, _⟩ := h; rw [h]; rfl) | (obtain ⟨_, _, _, _, _, _, _, _, _, _, _, _, _, _, h, _⟩ := h; rw [h]; rfl) | (obtain ⟨_, _, _, _, _, _, _, _, _, _, _, _, _, _, _, h, _⟩ := h; rw [h]; rfl) | (obtain ⟨_, _, _, _, _, _, _, _, _, _, _, _, _, _, _, _, h, _⟩ := h; rw [h]; rfl) | (obtain ⟨_, _, _, _, _, _, _, _, _, _, _, _, _, _, _, _, _, h, _⟩ := h; rw [h]; rfl) | (obtain ⟨_, _, _, _, _, _, _, _, _, _, _, _, _, _, _, _, _, _, h, _⟩ := h; rw [h]; rfl) | (obtain ⟨_, _, _, _, _, _, _, _, _, _, _, _, _, _, _, _, _, _, _, h, _⟩ := h; rw [h]; rfl)
def T_let_kind (K : PySem.W.Frag) (h : Nat) : Tr := fun ys M k => Stop (∃ (x : Str) (a b : Ex) (fi fo kd dx : Addr) (r c : Int) (nk : Nat) (mm : List Key → Option PyData) (g : Gm) (nn : Nat) (sm : Key → Option PyData) (κ : Kd), ys = [.v (.ref fi), .d (.tuple [.str "let", .str x, enc a, enc b]), .d (.int c), .dk nn sm] ∧ (ht (.lt x a b) ≤ h + 1 ∧ KGo K M fi fo kd dx r c nk mm (.lt x a b) g nn sm κ) ∧ ∀ M' mm', Aft K M M' fi fo kd dx r c (c + (sz (.lt x a b) : Nat) - 1) nk (nk + sz (.lt x a b) - 1) mm mm' → KnK mm' r c (.lt x a b) → k (.d (encK κ)) M')
theorem w_let_kind {P : Program} {w : World} {K : PySem.W.Frag} {mg : Str → Option Value} {base : Heap} (E : Fx w K mg) {h j : Nat} (hc : Mfn P w K mg base (He.ga K "Finder") "kind_of" j (T_kindof K h)) (hj : 8 ≤ j) {X : Cx} (C : Cxi X P w K mg base (j + 1)) (A : At X ["finder", "expression", "node", "scope", "word", "name", "first", "last", "kind"] (defScope (top 120)) true) {ys : List Sy} {M : Mem} {k : Sy → Mem → Prop} (hT : T_let_kind K h ys M k) :
    ExK X (startG ["finder", "expression", "node", "scope", "word", "name", "first", "last", "kind"] ys) M (defBody (top 120)) { nx := fun _ M' => Fz k (.d .none) M', rt := Fz k } := by
  have s0 : Slot X 0 "finder" := A.slot (by decide +kernel)
  have s1 : Slot X 1 "expression" := A.slot (by decide +kernel)
  have s2 : Slot X 2 "node" := A.slot (by decide +kernel)
  have s3 : Slot X 3 "scope" := A.slot (by decide +kernel)
  have s4 : Slot X 4 "word" := A.slot (by decide +kernel)
  have s5 : Slot X 5 "name" := A.slot (by decide +kernel)
  have s6 : Slot X 6 "first" := A.slot (by decide +kernel)
  have s7 : Slot X 7 "last" := A.slot (by decide +kernel)
  have s8 : Slot X 8 "kind" := A.slot (by decide +kernel)
  have d_with_name := d_with_name (P := P) (w := w) (K := K) (mg := mg) (base := base) E
  obtain ⟨x, a, b, fi, fo, kd, dx, r, c, nk, mm, g, nn, sm, κ, rfl, ⟨hh, F, hTy, hS, hn, hk2⟩, q⟩ := hT.go
  simp only [ht, sz, Ty] at hh hTy hn hk2 q
  have mo := m_Finder_own (P := P) (base := base) E
  have mw := m_Finder_within (P := P) (base := base) E
  have ms := m_Finder_same (P := P) (base := base) E
  have mn := m_Finder_wanted (P := P) (base := base) E hc hj
  obtain ⟨ho, κ1, hTa, hTb⟩ := hTy
  refine ex_open (by rfl) ?_
  repeat walk_at "sx"
  refine .mk ⟨_, _, _, rfl, F.fi_, fl_kind_of, ?_⟩
  repeat walk_at "sx"
  refine .mk ⟨a, fi, fo, kd, dx, r, _, _, _, g, nn, sm, κ1, rfl, ⟨by omega, F, hTa, hS, by omega, by omega⟩, fun M1 mm1 A1 K1 => ?_⟩
  have F1 := F.after A1
  repeat walk_at "sx"
  refine .mk ⟨_, _, _, rfl, F1.fi_, fl_kind_of, ?_⟩
  repeat walk_at "sx"
  refine .mk ⟨b, fi, fo, kd, dx, r, _, _, _, _, nn + 1, _, κ, rfl, ⟨by omega, F1, hTb, (hS.up (by omega)), by omega, by omega⟩, fun M2 mm2 A2 K2 => ?_⟩
  have F2 := F1.after A2
  repeat walk_at "sx"
  exact .is (q _ _ ((A1.trans A2 (by omega) (by omega)).cast (by omega) (by omega)) ⟨((K1.keep A2 (by omega)).at_ (by omega)), (K2.at_ (by omega))⟩)
theorem a_let_kind {P : Program} {w : World} {K : PySem.W.Frag} {mg : Str → Option Value} {base : Heap} (E : Fx w K mg) {h j : Nat} (hc : Mfn P w K mg base (He.ga K "Finder") "kind_of" j (T_kindof K h)) (hj : 8 ≤ j) : Fat P w K mg base (He.ga K "let_kind") (j + 1 + 1) (T_let_kind K h) := by
  obtain ⟨hm, fd, F⟩ := E.f_let_kind
  refine ⟨⟨fd, ["finder", "expression", "node", "scope"], def_okF (N := ["finder", "expression", "node", "scope", "word", "name", "first", "last", "kind"]) F ⟨rfl, rfl, rfl, by decide +kernel, rfl, by decide +kernel, by decide +kernel⟩ (fun ys M k h => ?_) (fun X C A ys M k h => w_let_kind E hc hj C A h), F.kp, F.bindsN fun _ _ _ _ _ _ us hl => match us, hl with | [_, _, _, _], _ => rfl⟩⟩
  replace h := Stop.go h
  first | (obtain ⟨h, _⟩ := h; rw [h]; rfl) | (obtain ⟨_, h, _⟩ := h; rw [h]; rfl) | (obtain ⟨_, _, h, _⟩ := h; rw [h]; rfl) | (obtain ⟨_, _, _, h, _⟩ := h; rw [h]; rfl) | (obtain ⟨_, _, _, _, h, _⟩ := h; rw [h]; rfl) | (obtain ⟨_, _, _, _, _, h, _⟩ := h; rw [h]; rfl) | (obtain ⟨_, _, _, _, _, _, h, _⟩ := h; rw [h]; rfl) | (obtain ⟨_, _, _, _, _, _, _, h, _⟩ := h; rw [h]; rfl) | (obtain ⟨_, _, _, _, _, _, _, _, h, _⟩ := h; rw [h]; rfl) | (obtain ⟨_, _, _, _, _, _, _, _, _, h, _⟩ := h; rw [h]; rfl) | (obtain ⟨_, _, _, _, _, _, _, _, _, _, h, _⟩ := h; rw [h]; rfl) | (obtain ⟨_, _, _, _, _, _, _, _, _, _, _, h, _⟩ := h; rw [h]; rfl) | (obtain ⟨_, _, _, _, _, _, _, _, _, _, _, _, h, _⟩ := h; rw [h]; rfl) | (obtain ⟨_, _, _, _, _, _, _, _, _, _, _, _, _, h, _⟩ := h; rw [h]; rfl) | (obtain ⟨_, _, _, _, _, _, _, _, _, _, _, _, _, _, h, _⟩ := h; rw [h]; rfl) | (obtain ⟨_, _, _, _, _, _, _, _, _, _, _, _, _, _, _, h, _⟩ := h; rw [h]; rfl) | (obtain ⟨_, _, _, _, _, _, _, _, _, _, _, _, _, _, _, _, h, _⟩ := h; rw [h]; rfl) | (obtain ⟨_, _, _, _, _, _, _, _, _, _, _, _, _, _, _, _, _, h, _⟩ := h; rw [h]; rfl) | (obtain ⟨_, _, _, _, _, _, _, _, _, _, _, _, _, _, _, _, _, _, h, _⟩ := h; rw [h]; rfl) | (obtain ⟨_, _, _, _, _, _, _, _, _, _, _, _, _, _, _, _, _, _, _, h, _⟩ := h; rw [h]; rfl)
def T_value_kind (K : PySem.W.Frag) (h : Nat) : Tr := fun ys M k => Stop (∃ (a : Ex) (fi fo kd dx : Addr) (r c : Int) (nk : Nat) (mm : List Key → Option PyData) (g : Gm) (nn : Nat) (sm : Key → Option PyData) (κ : Kd), ys = [.v (.ref fi), .d (.tuple [.str "value", enc a]), .d (.int c), .dk nn sm] ∧ (ht (.va a) ≤ h + 1 ∧ KGo K M fi fo kd dx r c nk mm (.va a) g nn sm κ) ∧ ∀ M' mm', Aft K M M' fi fo kd dx r c (c + (sz (.va a) : Nat) - 1) nk (nk + sz (.va a) - 1) mm mm' → KnK mm' r c (.va a) → k (.d (encK κ)) M')
theorem w_value_kind {P : Program} {w : World} {K : PySem.W.Frag} {mg : Str → Option Value} {base : Heap} (E : Fx w K mg) {h j : Nat} (hc : Mfn P w K mg base (He.ga K "Finder") "kind_of" j (T_kindof K h)) (hj : 8 ≤ j) {X : Cx} (C : Cxi X P w K mg base (j + 1)) (A : At X ["finder", "expression", "node", "scope"] (defScope (top 133)) true) {ys : List Sy} {M : Mem} {k : Sy → Mem → Prop} (hT : T_value_kind K h ys M k) :
    ExK X (startG ["finder", "expression", "node", "scope"] ys) M (defBody (top 133)) { nx := fun _ M' => Fz k (.d .none) M', rt := Fz k } := by
  have s0 : Slot X 0 "finder" := A.slot (by decide +kernel)
  have s1 : Slot X 1 "expression" := A.slot (by decide +kernel)
  have s2 : Slot X 2 "node" := A.slot (by decide +kernel)
  have s3 : Slot X 3 "scope" := A.slot (by decide +kernel)
  have g_WHOLE := E.g_WHOLE
  obtain ⟨a, fi, fo, kd, dx, r, c, nk, mm, g, nn, sm, κ, rfl, ⟨hh, F, hTy, hS, hn, hk2⟩, q⟩ := hT.go
  simp only [ht, sz, Ty] at hh hTy hn hk2 q
  have mo := m_Finder_own (P := P) (base := base) E
  have mw := m_Finder_within (P := P) (base := base) E
  have ms := m_Finder_same (P := P) (base := base) E
  have mn := m_Finder_wanted (P := P) (base := base) E hc hj
  obtain ⟨rfl, n, hTa⟩ := hTy
  refine ex_open (by rfl) ?_
  repeat walk_at "sx"
  refine .mk ⟨_, _, _, rfl, F.fi_, fl_wanted, ?_⟩
  repeat walk_at "sx"
  refine .mk ⟨a, fi, fo, kd, dx, r, _, _, _, g, nn, sm, (.place n), _, rfl, ⟨by omega, F, hTa, hS, by omega, by omega⟩, fun M1 mm1 A1 K1 => ?_⟩
  have F1 := F.after A1
  try dsimp only [encK]
  repeat walk_at "sx"
  exact .is (q _ _ (A1.cast (by omega) (by omega)) (K1.at_ (by omega)))
theorem a_value_kind {P : Program} {w : World} {K : PySem.W.Frag} {mg : Str → Option Value} {base : Heap} (E : Fx w K mg) {h j : Nat} (hc : Mfn P w K mg base (He.ga K "Finder") "kind_of" j (T_kindof K h)) (hj : 8 ≤ j) : Fat P w K mg base (He.ga K "value_kind") (j + 1 + 1) (T_value_kind K h) := by
  obtain ⟨hm, fd, F⟩ := E.f_value_kind
  refine ⟨⟨fd, ["finder", "expression", "node", "scope"], def_okF (N := ["finder", "expression", "node", "scope"]) F ⟨rfl, rfl, rfl, by decide +kernel, rfl, by decide +kernel, by decide +kernel⟩ (fun ys M k h => ?_) (fun X C A ys M k h => w_value_kind E hc hj C A h), F.kp, F.bindsN fun _ _ _ _ _ _ us hl => match us, hl with | [_, _, _, _], _ => rfl⟩⟩
  replace h := Stop.go h
  first | (obtain ⟨h, _⟩ := h; rw [h]; rfl) | (obtain ⟨_, h, _⟩ := h; rw [h]; rfl) | (obtain ⟨_, _, h, _⟩ := h; rw [h]; rfl) | (obtain ⟨_, _, _, h, _⟩ := h; rw [h]; rfl) | (obtain ⟨_, _, _, _, h, _⟩ := h; rw [h]; rfl) | (obtain ⟨_, _, _, _, _, h, _⟩ := h; rw [h]; rfl) | (obtain ⟨_, _, _, _, _, _, h, _⟩ := h; rw [h]; rfl) | (obtain ⟨_, _, _, _, _, _, _, h, _⟩ := h; rw [h]; rfl) | (obtain ⟨_, _, _, _, _, _, _, _, h, _⟩ := h; rw [h]; rfl) | (obtain ⟨_, _, _, _, _, _, _, _, _, h, _⟩ := h; rw [h]; rfl) | (obtain ⟨_, _, _, _, _, _, _, _, _, _, h, _⟩ := h; rw [h]; rfl) | (obtain ⟨_, _, _, _, _, _, _, _, _, _, _, h, _⟩ := h; rw [h]; rfl) | (obtain ⟨_, _, _, _, _, _, _, _, _, _, _, _, h, _⟩ := h; rw [h]; rfl) | (obtain ⟨_, _, _, _, _, _, _, _, _, _, _, _, _, h, _⟩ := h; rw [h]; rfl) | (obtain ⟨_, _, _, _, _, _, _, _, _, _, _, _, _, _, h, _⟩ := h; rw [h]; rfl) | (obtain ⟨_, _, _, _, _, _, _, _, _, _, _, _, _, _, _, h, _⟩ := h; rw [h]; rfl) | (obtain ⟨_, _, _, _, _, _, _, _, _, _, _, _, _, _, _, _, h, _⟩ := h; rw [h]; rfl) | (obtain ⟨_, _, _, _, _, _, _, _, _, _, _, _, _, _, _, _, _, h, _⟩ := h; rw [h]; rfl) | (obtain ⟨_, _, _, _, _, _, _, _, _, _, _, _, _, _, _, _, _, _, h, _⟩ := h; rw [h]; rfl) | (obtain ⟨_, _, _, _, _, _, _, _, _, _, _, _, _, _, _, _, _, _, _, h, _⟩ := h; rw [h]; rfl)
def T_up_kind (K : PySem.W.Frag) (h : Nat) : Tr := fun ys M k => Stop (∃ (n : Int) (a : Ex) (fi fo kd dx : Addr) (r c : Int) (nk : Nat) (mm : List Key → Option PyData) (g : Gm) (nn : Nat) (sm : Key → Option PyData) (κ : Kd), ys = [.v (.ref fi), .d (.tuple [.str "up", lenD n, enc a]), .d (.int c), .dk nn sm] ∧ (ht (.up n a) ≤ h + 1 ∧ KGo K M fi fo kd dx r c nk mm (.up n a) g nn sm κ) ∧ ∀ M' mm', Aft K M M' fi fo kd dx r c (c + (sz (.up n a) : Nat) - 1) nk (nk + sz (.up n a) - 1) mm mm' → KnK mm' r c (.up n a) → k (.d (encK κ)) M')
theorem w_up_kind {P : Program} {w : World} {K : PySem.W.Frag} {mg : Str → Option Value} {base : Heap} (E : Fx w K mg) {h j : Nat} (hc : Mfn P w K mg base (He.ga K "Finder") "kind_of" j (T_kindof K h)) (hj : 8 ≤ j) {X : Cx} (C : Cxi X P w K mg base (j + 1)) (A : At X ["finder", "expression", "node", "scope", "place"] (defScope (top 134)) true) {ys : List Sy} {M : Mem} {k : Sy → Mem → Prop} (hT : T_up_kind K h ys M k) :
    ExK X (startG ["finder", "expression", "node", "scope", "place"] ys) M (defBody (top 134)) { nx := fun _ M' => Fz k (.d .none) M', rt := Fz k } := by
  have s0 : Slot X 0 "finder" := A.slot (by decide +kernel)
  have s1 : Slot X 1 "expression" := A.slot (by decide +kernel)
  have s2 : Slot X 2 "node" := A.slot (by decide +kernel)
  have s3 : Slot X 3 "scope" := A.slot (by decide +kernel)
  have s4 : Slot X 4 "place" := A.slot (by decide +kernel)
  have d_names_of := d_names_of (P := P) (w := w) (K := K) (mg := mg) (base := base) E
  have d_added := d_added (P := P) (w := w) (K := K) (mg := mg) (base := base) E
  obtain ⟨n, a, fi, fo, kd, dx, r, c, nk, mm, g, nn, sm, κ, rfl, ⟨hh, F, hTy, hS, hn, hk2⟩, q⟩ := hT.go
  simp only [ht, sz, Ty] at hh hTy hn hk2 q
  have mo := m_Finder_own (P := P) (base := base) E
  have mw := m_Finder_within (P := P) (base := base) E
  have ms := m_Finder_same (P := P) (base := base) E
  have mn := m_Finder_wanted (P := P) (base := base) E hc hj
  obtain ⟨m, ⟨rfl, ho⟩, hTa⟩ := hTy
  refine ex_open (by rfl) ?_
  repeat walk_at "sx"
  refine .mk ⟨_, _, _, rfl, F.fi_, fl_own, ?_⟩
  repeat walk_at "sx"
  refine .mk ⟨_, _, _, rfl, F.fi_, fl_wanted, ?_⟩
  repeat walk_at "sx"
  refine .mk ⟨a, fi, fo, kd, dx, r, _, _, _, g, nn, sm, (.place m), _, rfl, ⟨by omega, F, hTa, hS, by omega, by omega⟩, fun M1 mm1 A1 K1 => ?_⟩
  have F1 := F.after A1
  try dsimp only [encK]
  repeat walk_at "sx"
  exact .is (q _ _ (A1.cast (by omega) (by omega)) (K1.at_ (by omega)))
theorem a_up_kind {P : Program} {w : World} {K : PySem.W.Frag} {mg : Str → Option Value} {base : Heap} (E : Fx w K mg) {h j : Nat} (hc : Mfn P w K mg base (He.ga K "Finder") "kind_of" j (T_kindof K h)) (hj : 8 ≤ j) : Fat P w K mg base (He.ga K "up_kind") (j + 1 + 1) (T_up_kind K h) := by
  obtain ⟨hm, fd, F⟩ := E.f_up_kind
  refine ⟨⟨fd, ["finder", "expression", "node", "scope"], def_okF (N := ["finder", "expression", "node", "scope", "place"]) F ⟨rfl, rfl, rfl, by decide +kernel, rfl, by decide +kernel, by decide +kernel⟩ (fun ys M k h => ?_) (fun X C A ys M k h => w_up_kind E hc hj C A h), F.kp, F.bindsN fun _ _ _ _ _ _ us hl => match us, hl with | [_, _, _, _], _ => rfl⟩⟩
  replace h := Stop.go h
  first | (obtain ⟨h, _⟩ := h; rw [h]; rfl) | (obtain ⟨_, h, _⟩ := h; rw [h]; rfl) | (obtain ⟨_, _, h, _⟩ := h; rw [h]; rfl) | (obtain ⟨_, _, _, h, _⟩ := h; rw [h]; rfl) | (obtain ⟨_, _, _, _, h, _⟩ := h; rw [h]; rfl) | (obtain ⟨_, _, _, _, _, h, _⟩ := h; rw [h]; rfl) | (obtain ⟨_, _, _, _, _, _, h, _⟩ := h; rw [h]; rfl) | (obtain ⟨_, _, _, _, _, _, _, h, _⟩ := h; rw [h]; rfl) | (obtain ⟨_, _, _, _, _, _, _, _, h, _⟩ := h; rw [h]; rfl) | (obtain ⟨_, _, _, _, _, _, _, _, _, h, _⟩ := h; rw [h]; rfl) | (obtain ⟨_, _, _, _, _, _, _, _, _, _, h, _⟩ := h; rw [h]; rfl) | (obtain ⟨_, _, _, _, _, _, _, _, _, _, _, h, _⟩ := h; rw [h]; rfl) | (obtain ⟨_, _, _, _, _, _, _, _, _, _, _, _, h, _⟩ := h; rw [h]; rfl) | (obtain ⟨_, _, _, _, _, _, _, _, _, _, _, _, _, h, _⟩ := h; rw [h]; rfl) | (obtain ⟨_, _, _, _, _, _, _, _, _, _, _, _, _, _, h, _⟩ := h; rw [h]; rfl) | (obtain ⟨_, _, _, _, _, _, _, _, _, _, _, _, _, _, _, h, _⟩ := h; rw [h]; rfl) | (obtain ⟨_, _, _, _, _, _, _, _, _, _, _, _, _, _, _, _, h, _⟩ := h; rw [h]; rfl) | (obtain ⟨_, _, _, _, _, _, _, _, _, _, _, _, _, _, _, _, _, h, _⟩ := h; rw [h]; rfl) | (obtain ⟨_, _, _, _, _, _, _, _, _, _, _, _, _, _, _, _, _, _, h, _⟩ := h; rw [h]; rfl) | (obtain ⟨_, _, _, _, _, _, _, _, _, _, _, _, _, _, _, _, _, _, _, h, _⟩ := h; rw [h]; rfl)
def T_wide_kind (K : PySem.W.Frag) (h : Nat) : Tr := fun ys M k => Stop (∃ (n : Int) (a : Ex) (fi fo kd dx : Addr) (r c : Int) (nk : Nat) (mm : List Key → Option PyData) (g : Gm) (nn : Nat) (sm : Key → Option PyData) (κ : Kd), ys = [.v (.ref fi), .d (.tuple [.str "wide", lenD n, enc a]), .d (.int c), .dk nn sm] ∧ (ht (.wi n a) ≤ h + 1 ∧ KGo K M fi fo kd dx r c nk mm (.wi n a) g nn sm κ) ∧ ∀ M' mm', Aft K M M' fi fo kd dx r c (c + (sz (.wi n a) : Nat) - 1) nk (nk + sz (.wi n a) - 1) mm mm' → KnK mm' r c (.wi n a) → k (.d (encK κ)) M')
theorem w_wide_kind {P : Program} {w : World} {K : PySem.W.Frag} {mg : Str → Option Value} {base : Heap} (E : Fx w K mg) {h j : Nat} (hc : Mfn P w K mg base (He.ga K "Finder") "kind_of" j (T_kindof K h)) (hj : 8 ≤ j) {X : Cx} (C : Cxi X P w K mg base (j + 1)) (A : At X ["finder", "expression", "node", "scope", "place"] (defScope (top 135)) true) {ys : List Sy} {M : Mem} {k : Sy → Mem → Prop} (hT : T_wide_kind K h ys M k) :
    ExK X (startG ["finder", "expression", "node", "scope", "place"] ys) M (defBody (top 135)) { nx := fun _ M' => Fz k (.d .none) M', rt := Fz k } := by
  have s0 : Slot X 0 "finder" := A.slot (by decide +kernel)
  have s1 : Slot X 1 "expression" := A.slot (by decide +kernel)
  have s2 : Slot X 2 "node" := A.slot (by decide +kernel)
  have s3 : Slot X 3 "scope" := A.slot (by decide +kernel)
  have s4 : Slot X 4 "place" := A.slot (by decide +kernel)
  have d_names_of := d_names_of (P := P) (w := w) (K := K) (mg := mg) (base := base) E
  obtain ⟨n, a, fi, fo, kd, dx, r, c, nk, mm, g, nn, sm, κ, rfl, ⟨hh, F, hTy, hS, hn, hk2⟩, q⟩ := hT.go
  simp only [ht, sz, Ty] at hh hTy hn hk2 q
  have mo := m_Finder_own (P := P) (base := base) E
  have mw := m_Finder_within (P := P) (base := base) E
  have ms := m_Finder_same (P := P) (base := base) E
  have mn := m_Finder_wanted (P := P) (base := base) E hc hj
  obtain ⟨⟨rfl, ho⟩, m, hm, hTa⟩ := hTy
  refine ex_open (by rfl) ?_
  repeat walk_at "sx"
  refine .mk ⟨_, _, _, rfl, F.fi_, fl_own, ?_⟩
  repeat walk_at "sx"
  refine .mk ⟨_, _, _, rfl, F.fi_, fl_wanted, ?_⟩
  repeat walk_at "sx"
  refine .mk ⟨a, fi, fo, kd, dx, r, _, _, _, g, nn, sm, (.place m), _, rfl, ⟨by omega, F, hTa, hS, by omega, by omega⟩, fun M1 mm1 A1 K1 => ?_⟩
  have F1 := F.after A1
  try dsimp only [encK]
  repeat walk_at "sx"
  refine .mk ⟨_, _, _, rfl, F1.fi_, fl_within, ?_⟩
  repeat walk_at "sx"
  exact .is (q _ _ (A1.cast (by omega) (by omega)) (K1.at_ (by omega)))
theorem a_wide_kind {P : Program} {w : World} {K : PySem.W.Frag} {mg : Str → Option Value} {base : Heap} (E : Fx w K mg) {h j : Nat} (hc : Mfn P w K mg base (He.ga K "Finder") "kind_of" j (T_kindof K h)) (hj : 8 ≤ j) : Fat P w K mg base (He.ga K "wide_kind") (j + 1 + 1) (T_wide_kind K h) := by
  obtain ⟨hm, fd, F⟩ := E.f_wide_kind
  refine ⟨⟨fd, ["finder", "expression", "node", "scope"], def_okF (N := ["finder", "expression", "node", "scope", "place"]) F ⟨rfl, rfl, rfl, by decide +kernel, rfl, by decide +kernel, by decide +kernel⟩ (fun ys M k h => ?_) (fun X C A ys M k h => w_wide_kind E hc hj C A h), F.kp, F.bindsN fun _ _ _ _ _ _ us hl => match us, hl with | [_, _, _, _], _ => rfl⟩⟩
  replace h := Stop.go h
  first | (obtain ⟨h, _⟩ := h; rw [h]; rfl) | (obtain ⟨_, h, _⟩ := h; rw [h]; rfl) | (obtain ⟨_, _, h, _⟩ := h; rw [h]; rfl) | (obtain ⟨_, _, _, h, _⟩ := h; rw [h]; rfl) | (obtain ⟨_, _, _, _, h, _⟩ := h; rw [h]; rfl) | (obtain ⟨_, _, _, _, _, h, _⟩ := h; rw [h]; rfl) | (obtain ⟨_, _, _, _, _, _, h, _⟩ := h; rw [h]; rfl) | (obtain ⟨_, _, _, _, _, _, _, h, _⟩ := h; rw [h]; rfl) | (obtain ⟨_, _, _, _, _, _, _, _, h, _⟩ := h; rw [h]; rfl) | (obtain ⟨_, _, _, _, _, _, _, _, _, h, _⟩ := h; rw [h]; rfl) | (obtain ⟨_, _, _, _, _, _, _, _, _, _, h, _⟩ := h; rw [h]; rfl) | (obtain ⟨_, _, _, _, _, _, _, _, _, _, _, h, _⟩ := h; rw [h]; rfl) | (obtain ⟨_, _, _, _, _, _, _, _, _, _, _, _, h, _⟩ := h; rw [h]; rfl) | (obtain ⟨_, _, _, _, _, _, _, _, _, _, _, _, _, h, _⟩ := h; rw [h]; rfl) | (obtain ⟨_, _, _, _, _, _, _, _, _, _, _, _, _, _, h, _⟩ := h; rw [h]; rfl) | (obtain ⟨_, _, _, _, _, _, _, _, _, _, _, _, _, _, _, h, _⟩ := h; rw [h]; rfl) | (obtain ⟨_, _, _, _, _, _, _, _, _, _, _, _, _, _, _, _, h, _⟩ := h; rw [h]; rfl) | (obtain ⟨_, _, _, _, _, _, _, _, _, _, _, _, _, _, _, _, _, h, _⟩ := h; rw [h]; rfl) | (obtain ⟨_, _, _, _, _, _, _, _, _, _, _, _, _, _, _, _, _, _, h, _⟩ := h; rw [h]; rfl) | (obtain ⟨_, _, _, _, _, _, _, _, _, _, _, _, _, _, _, _, _, _, _, h, _⟩ := h; rw [h]; rfl)
def T_mirror_kind (K : PySem.W.Frag) (h : Nat) : Tr := fun ys M k => Stop (∃ (l : Int) (a : Ex) (fi fo kd dx : Addr) (r c : Int) (nk : Nat) (mm : List Key → Option PyData) (g : Gm) (nn : Nat) (sm : Key → Option PyData) (κ : Kd), ys = [.v (.ref fi), .d (.tuple [.str "mirror", enc a]), .d (.int c), .dk nn sm] ∧ (ht (.mi l a) ≤ h + 1 ∧ KGo K M fi fo kd dx r c nk mm (.mi l a) g nn sm κ) ∧ ∀ M' mm', Aft K M M' fi fo kd dx r c (c + (sz (.mi l a) : Nat) - 1) nk (nk + sz (.mi l a) - 1) mm mm' → KnK mm' r c (.mi l a) → k (.d (encK κ)) M')
theorem w_mirror_kind {P : Program} {w : World} {K : PySem.W.Frag} {mg : Str → Option Value} {base : Heap} (E : Fx w K mg) {h j : Nat} (hc : Mfn P w K mg base (He.ga K "Finder") "kind_of" j (T_kindof K h)) (hj : 8 ≤ j) {X : Cx} (C : Cxi X P w K mg base (j + 1)) (A : At X ["finder", "expression", "node", "scope"] (defScope (top 136)) true) {ys : List Sy} {M : Mem} {k : Sy → Mem → Prop} (hT : T_mirror_kind K h ys M k) :
    ExK X (startG ["finder", "expression", "node", "scope"] ys) M (defBody (top 136)) { nx := fun _ M' => Fz k (.d .none) M', rt := Fz k } := by
  have s0 : Slot X 0 "finder" := A.slot (by decide +kernel)
  have s1 : Slot X 1 "expression" := A.slot (by decide +kernel)
  have s2 : Slot X 2 "node" := A.slot (by decide +kernel)
  have s3 : Slot X 3 "scope" := A.slot (by decide +kernel)
  obtain ⟨l, a, fi, fo, kd, dx, r, c, nk, mm, g, nn, sm, κ, rfl, ⟨hh, F, hTy, hS, hn, hk2⟩, q⟩ := hT.go
  simp only [ht, sz, Ty] at hh hTy hn hk2 q
  have mo := m_Finder_own (P := P) (base := base) E
  have mw := m_Finder_within (P := P) (base := base) E
  have ms := m_Finder_same (P := P) (base := base) E
  have mn := m_Finder_wanted (P := P) (base := base) E hc hj
  obtain ⟨⟨rfl, ho⟩, hTa⟩ := hTy
  refine ex_open (by rfl) ?_
  repeat walk_at "sx"
  refine .mk ⟨_, _, _, rfl, F.fi_, fl_wanted, ?_⟩
  repeat walk_at "sx"
  refine .mk ⟨a, fi, fo, kd, dx, r, _, _, _, g, nn, sm, (.place l), _, rfl, ⟨by omega, F, hTa, hS, by omega, by omega⟩, fun M1 mm1 A1 K1 => ?_⟩
  have F1 := F.after A1
  try dsimp only [encK]
  repeat walk_at "sx"
  exact .is (q _ _ (A1.cast (by omega) (by omega)) (K1.at_ (by omega)))
theorem a_mirror_kind {P : Program} {w : World} {K : PySem.W.Frag} {mg : Str → Option Value} {base : Heap} (E : Fx w K mg) {h j : Nat} (hc : Mfn P w K mg base (He.ga K "Finder") "kind_of" j (T_kindof K h)) (hj : 8 ≤ j) : Fat P w K mg base (He.ga K "mirror_kind") (j + 1 + 1) (T_mirror_kind K h) := by
  obtain ⟨hm, fd, F⟩ := E.f_mirror_kind
  refine ⟨⟨fd, ["finder", "expression", "node", "scope"], def_okF (N := ["finder", "expression", "node", "scope"]) F ⟨rfl, rfl, rfl, by decide +kernel, rfl, by decide +kernel, by decide +kernel⟩ (fun ys M k h => ?_) (fun X C A ys M k h => w_mirror_kind E hc hj C A h), F.kp, F.bindsN fun _ _ _ _ _ _ us hl => match us, hl with | [_, _, _, _], _ => rfl⟩⟩
  replace h := Stop.go h
  first | (obtain ⟨h, _⟩ := h; rw [h]; rfl) | (obtain ⟨_, h, _⟩ := h; rw [h]; rfl) | (obtain ⟨_, _, h, _⟩ := h; rw [h]; rfl) | (obtain ⟨_, _, _, h, _⟩ := h; rw [h]; rfl) | (obtain ⟨_, _, _, _, h, _⟩ := h; rw [h]; rfl) | (obtain ⟨_, _, _, _, _, h, _⟩ := h; rw [h]; rfl) | (obtain ⟨_, _, _, _, _, _, h, _⟩ := h; rw [h]; rfl) | (obtain ⟨_, _, _, _, _, _, _, h, _⟩ := h; rw [h]; rfl) | (obtain ⟨_, _, _, _, _, _, _, _, h, _⟩ := h; rw [h]; rfl) | (obtain ⟨_, _, _, _, _, _, _, _, _, h, _⟩ := h; rw [h]; rfl) | (obtain ⟨_, _, _, _, _, _, _, _, _, _, h, _⟩ := h; rw [h]; rfl) | (obtain ⟨_, _, _, _, _, _, _, _, _, _, _, h, _⟩ := h; rw [h]; rfl) | (obtain ⟨_, _, _, _, _, _, _, _, _, _, _, _, h, _⟩ := h; rw [h]; rfl) | (obtain ⟨_, _, _, _, _, _, _, _, _, _, _, _, _, h, _⟩ := h; rw [h]; rfl) | (obtain ⟨_, _, _, _, _, _, _, _, _, _, _, _, _, _, h, _⟩ := h; rw [h]; rfl) | (obtain ⟨_, _, _, _, _, _, _, _, _, _, _, _, _, _, _, h, _⟩ := h; rw [h]; rfl) | (obtain ⟨_, _, _, _, _, _, _, _, _, _, _, _, _, _, _, _, h, _⟩ := h; rw [h]; rfl) | (obtain ⟨_, _, _, _, _, _, _, _, _, _, _, _, _, _, _, _, _, h, _⟩ := h; rw [h]; rfl) | (obtain ⟨_, _, _, _, _, _, _, _, _, _, _, _, _, _, _, _, _, _, h, _⟩ := h; rw [h]; rfl) | (obtain ⟨_, _, _, _, _, _, _, _, _, _, _, _, _, _, _, _, _, _, _, h, _⟩ := h; rw [h]; rfl)
def T_fork_kind (K : PySem.W.Frag) (h : Nat) : Tr := fun ys M k => Stop (∃ (n : Int) (p : Ex) (x : Str) (a b : Ex) (fi fo kd dx : Addr) (r c : Int) (nk : Nat) (mm : List Key → Option PyData) (g : Gm) (nn : Nat) (sm : Key → Option PyData) (κ : Kd), ys = [.v (.ref fi), .d (.tuple [.str "fork", lenD n, enc p, .str x, enc a, enc b]), .d (.int c), .dk nn sm] ∧ (ht (.fk n p x a b) ≤ h + 1 ∧ KGo K M fi fo kd dx r c nk mm (.fk n p x a b) g nn sm κ) ∧ ∀ M' mm', Aft K M M' fi fo kd dx r c (c + (sz (.fk n p x a b) : Nat) - 1) nk (nk + sz (.fk n p x a b) - 1) mm mm' → KnK mm' r c (.fk n p x a b) → k (.d (encK κ)) M')
theorem w_fork_kind {P : Program} {w : World} {K : PySem.W.Frag} {mg : Str → Option Value} {base : Heap} (E : Fx w K mg) {h j : Nat} (hc : Mfn P w K mg base (He.ga K "Finder") "kind_of" j (T_kindof K h)) (hj : 8 ≤ j) {X : Cx} (C : Cxi X P w K mg base (j + 1)) (A : At X ["finder", "expression", "node", "scope", "word", "length", "part", "name", "near", "far", "place", "one", "other"] (defScope (top 137)) true) {ys : List Sy} {M : Mem} {k : Sy → Mem → Prop} (hT : T_fork_kind K h ys M k) :
    ExK X (startG ["finder", "expression", "node", "scope", "word", "length", "part", "name", "near", "far", "place", "one", "other"] ys) M (defBody (top 137)) { nx := fun _ M' => Fz k (.d .none) M', rt := Fz k } := by
  have s0 : Slot X 0 "finder" := A.slot (by decide +kernel)
  have s1 : Slot X 1 "expression" := A.slot (by decide +kernel)
  have s2 : Slot X 2 "node" := A.slot (by decide +kernel)
  have s3 : Slot X 3 "scope" := A.slot (by decide +kernel)
  have s4 : Slot X 4 "word" := A.slot (by decide +kernel)
  have s5 : Slot X 5 "length" := A.slot (by decide +kernel)
  have s6 : Slot X 6 "part" := A.slot (by decide +kernel)
  have s7 : Slot X 7 "name" := A.slot (by decide +kernel)
  have s8 : Slot X 8 "near" := A.slot (by decide +kernel)
  have s9 : Slot X 9 "far" := A.slot (by decide +kernel)
  have s10 : Slot X 10 "place" := A.slot (by decide +kernel)
  have s11 : Slot X 11 "one" := A.slot (by decide +kernel)
  have s12 : Slot X 12 "other" := A.slot (by decide +kernel)
  have d_names_of := d_names_of (P := P) (w := w) (K := K) (mg := mg) (base := base) E
  have d_with_name := d_with_name (P := P) (w := w) (K := K) (mg := mg) (base := base) E
  have d_less := d_less (P := P) (w := w) (K := K) (mg := mg) (base := base) E
  obtain ⟨n, p, x, a, b, fi, fo, kd, dx, r, c, nk, mm, g, nn, sm, κ, rfl, ⟨hh, F, hTy, hS, hn, hk2⟩, q⟩ := hT.go
  simp only [ht, sz, Ty] at hh hTy hn hk2 q
  have mo := m_Finder_own (P := P) (base := base) E
  have mw := m_Finder_within (P := P) (base := base) E
  have ms := m_Finder_same (P := P) (base := base) E
  have mn := m_Finder_wanted (P := P) (base := base) E hc hj
  obtain ⟨ho, hn0, m, hm1, hm2, hTp, hTa, hTb⟩ := hTy
  refine ex_open (by rfl) ?_
  repeat walk_at "sx"
  refine .mk ⟨_, _, _, rfl, F.fi_, fl_own, ?_⟩
  repeat walk_at "sx"
  refine .mk ⟨_, _, _, rfl, F.fi_, fl_wanted, ?_⟩
  repeat walk_at "sx"
  refine .mk ⟨p, fi, fo, kd, dx, r, _, _, _, g, nn, sm, (.place m), _, rfl, ⟨by omega, F, hTp, hS, by omega, by omega⟩, fun M1 mm1 A1 K1 => ?_⟩
  have F1 := F.after A1
  try dsimp only [encK]
  repeat walk_at "sx"
  refine .mk ⟨_, _, _, rfl, F1.fi_, fl_within, ?_⟩
  repeat walk_at "sx"
  refine .mk ⟨_, _, _, rfl, F1.fi_, fl_kind_of, ?_⟩
  repeat walk_at "sx"
  refine .mk ⟨a, fi, fo, kd, dx, r, _, _, _, _, nn + 1, _, κ, rfl, ⟨by omega, F1, hTa, (hS.up (by omega)), by omega, by omega⟩, fun M2 mm2 A2 K2 => ?_⟩
  have F2 := F1.after A2
  repeat walk_at "sx"
  refine .mk ⟨_, _, _, rfl, F2.fi_, fl_kind_of, ?_⟩
  repeat walk_at "sx"
  refine .mk ⟨b, fi, fo, kd, dx, r, _, _, _, _, nn + 1, _, κ, rfl, ⟨by omega, F2, hTb, (hS.up (by omega)), by omega, by omega⟩, fun M3 mm3 A3 K3 => ?_⟩
  have F3 := F2.after A3
  repeat walk_at "sx"
  refine .mk ⟨_, _, _, rfl, F3.fi_, fl_same, ?_⟩
  repeat walk_at "sx"
  exact .is (q _ _ (((A1.trans A2 (by omega) (by omega)).trans A3 (by omega) (by omega)).cast (by omega) (by omega)) ⟨(((K1.keep A2 (by omega)).keep A3 (by omega)).at_ (by omega)), ((K2.keep A3 (by omega)).at_ (by omega)), (K3.at_ (by omega))⟩)
theorem a_fork_kind {P : Program} {w : World} {K : PySem.W.Frag} {mg : Str → Option Value} {base : Heap} (E : Fx w K mg) {h j : Nat} (hc : Mfn P w K mg base (He.ga K "Finder") "kind_of" j (T_kindof K h)) (hj : 8 ≤ j) : Fat P w K mg base (He.ga K "fork_kind") (j + 1 + 1) (T_fork_kind K h) := by
  obtain ⟨hm, fd, F⟩ := E.f_fork_kind
  refine ⟨⟨fd, ["finder", "expression", "node", "scope"], def_okF (N := ["finder", "expression", "node", "scope", "word", "length", "part", "name", "near", "far", "place", "one", "other"]) F ⟨rfl, rfl, rfl, by decide +kernel, rfl, by decide +kernel, by decide +kernel⟩ (fun ys M k h => ?_) (fun X C A ys M k h => w_fork_kind E hc hj C A h), F.kp, F.bindsN fun _ _ _ _ _ _ us hl => match us, hl with | [_, _, _, _], _ => rfl⟩⟩
  replace h := Stop.go h
  first | (obtain ⟨h, _⟩ := h; rw [h]; rfl) | (obtain ⟨_, h, _⟩ := h; rw [h]; rfl) | (obtain ⟨_, _, h, _⟩ := h; rw [h]; rfl) | (obtain ⟨_, _, _, h, _⟩ := h; rw [h]; rfl) | (obtain ⟨_, _, _, _, h, _⟩ := h; rw [h]; rfl) | (obtain ⟨_, _, _, _, _, h, _⟩ := h; rw [h]; rfl) | (obtain ⟨_, _, _, _, _, _, h, _⟩ := h; rw [h]; rfl) | (obtain ⟨_, _, _, _, _, _, _, h, _⟩ := h; rw [h]; rfl) | (obtain ⟨_, _, _, _, _, _, _, _, h, _⟩ := h; rw [h]; rfl) | (obtain ⟨_, _, _, _, _, _, _, _, _, h, _⟩ := h; rw [h]; rfl) | (obtain ⟨_, _, _, _, _, _, _, _, _, _, h, _⟩ := h; rw [h]; rfl) | (obtain ⟨_, _, _, _, _, _, _, _, _, _, _, h, _⟩ := h; rw [h]; rfl) | (obtain ⟨_, _, _, _, _, _, _, _, _, _, _, _, h, _⟩ := h; rw [h]; rfl) | (obtain ⟨_, _, _, _, _, _, _, _, _, _, _, _, _, h, _⟩ := h; rw [h]; rfl) | (obtain ⟨_, _, _, _, _, _, _, _, _, _, _, _, _, _, h, _⟩ := h; rw [h]; rfl) | (obtain ⟨_, _, _, _, _, _, _, _, _, _, _, _, _, _, _, h, _⟩ := h; rw [h]; rfl) | (obtain ⟨_, _, _, _, _, _, _, _, _, _, _, _, _, _, _, _, h, _⟩ := h; rw [h]; rfl) | (obtain ⟨_, _, _, _, _, _, _, _, _, _, _, _, _, _, _, _, _, h, _⟩ := h; rw [h]; rfl) | (obtain ⟨_, _, _, _, _, _, _, _, _, _, _, _, _, _, _, _, _, _, h, _⟩ := h; rw [h]; rfl) | (obtain ⟨_, _, _, _, _, _, _, _, _, _, _, _, _, _, _, _, _, _, _, h, _⟩ := h; rw [h]; rfl)
def T_when_kind (K : PySem.W.Frag) (h : Nat) : Tr := fun ys M k => Stop (∃ (a : Ex) (n : Int) (x : Str) (b d : Ex) (fi fo kd dx : Addr) (r c : Int) (nk : Nat) (mm : List Key → Option PyData) (g : Gm) (nn : Nat) (sm : Key → Option PyData) (κ : Kd), ys = [.v (.ref fi), .d (.tuple [.str "when", enc a, lenD n, .str x, enc b, enc d]), .d (.int c), .dk nn sm] ∧ (ht (.wh a n x b d) ≤ h + 1 ∧ KGo K M fi fo kd dx r c nk mm (.wh a n x b d) g nn sm κ) ∧ ∀ M' mm', Aft K M M' fi fo kd dx r c (c + (sz (.wh a n x b d) : Nat) - 1) nk (nk + sz (.wh a n x b d) - 1) mm mm' → KnK mm' r c (.wh a n x b d) → k (.d (encK κ)) M')
theorem w_when_kind {P : Program} {w : World} {K : PySem.W.Frag} {mg : Str → Option Value} {base : Heap} (E : Fx w K mg) {h j : Nat} (hc : Mfn P w K mg base (He.ga K "Finder") "kind_of" j (T_kindof K h)) (hj : 8 ≤ j) {X : Cx} (C : Cxi X P w K mg base (j + 1)) (A : At X ["finder", "expression", "node", "scope", "word", "part", "length", "name", "near", "far", "one"] (defScope (top 138)) true) {ys : List Sy} {M : Mem} {k : Sy → Mem → Prop} (hT : T_when_kind K h ys M k) :
    ExK X (startG ["finder", "expression", "node", "scope", "word", "part", "length", "name", "near", "far", "one"] ys) M (defBody (top 138)) { nx := fun _ M' => Fz k (.d .none) M', rt := Fz k } := by
  have s0 : Slot X 0 "finder" := A.slot (by decide +kernel)
  have s1 : Slot X 1 "expression" := A.slot (by decide +kernel)
  have s2 : Slot X 2 "node" := A.slot (by decide +kernel)
  have s3 : Slot X 3 "scope" := A.slot (by decide +kernel)
  have s4 : Slot X 4 "word" := A.slot (by decide +kernel)
  have s5 : Slot X 5 "part" := A.slot (by decide +kernel)
  have s6 : Slot X 6 "length" := A.slot (by decide +kernel)
  have s7 : Slot X 7 "name" := A.slot (by decide +kernel)
  have s8 : Slot X 8 "near" := A.slot (by decide +kernel)
  have s9 : Slot X 9 "far" := A.slot (by decide +kernel)
  have s10 : Slot X 10 "one" := A.slot (by decide +kernel)
  have d_names_of := d_names_of (P := P) (w := w) (K := K) (mg := mg) (base := base) E
  have d_with_name := d_with_name (P := P) (w := w) (K := K) (mg := mg) (base := base) E
  obtain ⟨a, n, x, b, d, fi, fo, kd, dx, r, c, nk, mm, g, nn, sm, κ, rfl, ⟨hh, F, hTy, hS, hn, hk2⟩, q⟩ := hT.go
  simp only [ht, sz, Ty] at hh hTy hn hk2 q
  have mo := m_Finder_own (P := P) (base := base) E
  have mw := m_Finder_within (P := P) (base := base) E
  have ms := m_Finder_same (P := P) (base := base) E
  have mn := m_Finder_wanted (P := P) (base := base) E hc hj
  obtain ⟨ho, hn0, hTa, hTb, hTc⟩ := hTy
  refine ex_open (by rfl) ?_
  repeat walk_at "sx"
  refine .mk ⟨_, _, _, rfl, F.fi_, fl_own, ?_⟩
  repeat walk_at "sx"
  refine .mk ⟨_, _, _, rfl, F.fi_, fl_wanted, ?_⟩
  repeat walk_at "sx"
  refine .mk ⟨a, fi, fo, kd, dx, r, _, _, _, g, nn, sm, .whole, _, rfl, ⟨by omega, F, hTa, hS, by omega, by omega⟩, fun M1 mm1 A1 K1 => ?_⟩
  have F1 := F.after A1
  try dsimp only [encK]
  repeat walk_at "sx"
  refine .mk ⟨_, _, _, rfl, F1.fi_, fl_kind_of, ?_⟩
  repeat walk_at "sx"
  refine .mk ⟨b, fi, fo, kd, dx, r, _, _, _, _, nn + 1, _, κ, rfl, ⟨by omega, F1, hTb, (hS.up (by omega)), by omega, by omega⟩, fun M2 mm2 A2 K2 => ?_⟩
  have F2 := F1.after A2
  repeat walk_at "sx"
  refine .mk ⟨_, _, _, rfl, F2.fi_, fl_same, ?_⟩
  repeat walk_at "sx"
  refine .mk ⟨_, _, _, rfl, F2.fi_, fl_kind_of, ?_⟩
  repeat walk_at "sx"
  refine .mk ⟨d, fi, fo, kd, dx, r, _, _, _, g, nn, sm, κ, rfl, ⟨by omega, F2, hTc, hS, by omega, by omega⟩, fun M3 mm3 A3 K3 => ?_⟩
  have F3 := F2.after A3
  repeat walk_at "sx"
  exact .is (q _ _ (((A1.trans A2 (by omega) (by omega)).trans A3 (by omega) (by omega)).cast (by omega) (by omega)) ⟨(((K1.keep A2 (by omega)).keep A3 (by omega)).at_ (by omega)), ((K2.keep A3 (by omega)).at_ (by omega)), (K3.at_ (by omega))⟩)
theorem a_when_kind {P : Program} {w : World} {K : PySem.W.Frag} {mg : Str → Option Value} {base : Heap} (E : Fx w K mg) {h j : Nat} (hc : Mfn P w K mg base (He.ga K "Finder") "kind_of" j (T_kindof K h)) (hj : 8 ≤ j) : Fat P w K mg base (He.ga K "when_kind") (j + 1 + 1) (T_when_kind K h) := by
  obtain ⟨hm, fd, F⟩ := E.f_when_kind
  refine ⟨⟨fd, ["finder", "expression", "node", "scope"], def_okF (N := ["finder", "expression", "node", "scope", "word", "part", "length", "name", "near", "far", "one"]) F ⟨rfl, rfl, rfl, by decide +kernel, rfl, by decide +kernel, by decide +kernel⟩ (fun ys M k h => ?_) (fun X C A ys M k h => w_when_kind E hc hj C A h), F.kp, F.bindsN fun _ _ _ _ _ _ us hl => match us, hl with | [_, _, _, _], _ => rfl⟩⟩
  replace h := Stop.go h
  first | (obtain ⟨h, _⟩ := h; rw [h]; rfl) | (obtain ⟨_, h, _⟩ := h; rw [h]; rfl) | (obtain ⟨_, _, h, _⟩ := h; rw [h]; rfl) | (obtain ⟨_, _, _, h, _⟩ := h; rw [h]; rfl) | (obtain ⟨_, _, _, _, h, _⟩ := h; rw [h]; rfl) | (obtain ⟨_, _, _, _, _, h, _⟩ := h; rw [h]; rfl) | (obtain ⟨_, _, _, _, _, _, h, _⟩ := h; rw [h]; rfl) | (obtain ⟨_, _, _, _, _, _, _, h, _⟩ := h; rw [h]; rfl) | (obtain ⟨_, _, _, _, _, _, _, _, h, _⟩ := h; rw [h]; rfl) | (obtain ⟨_, _, _, _, _, _, _, _, _, h, _⟩ := h; rw [h]; rfl) | (obtain ⟨_, _, _, _, _, _, _, _, _, _, h, _⟩ := h; rw [h]; rfl) | (obtain ⟨_, _, _, _, _, _, _, _, _, _, _, h, _⟩ := h; rw [h]; rfl) | (obtain ⟨_, _, _, _, _, _, _, _, _, _, _, _, h, _⟩ := h; rw [h]; rfl) | (obtain ⟨_, _, _, _, _, _, _, _, _, _, _, _, _, h, _⟩ := h; rw [h]; rfl) | (obtain ⟨_, _, _, _, _, _, _, _, _, _, _, _, _, _, h, _⟩ := h; rw [h]; rfl) | (obtain ⟨_, _, _, _, _, _, _, _, _, _, _, _, _, _, _, h, _⟩ := h; rw [h]; rfl) | (obtain ⟨_, _, _, _, _, _, _, _, _, _, _, _, _, _, _, _, h, _⟩ := h; rw [h]; rfl) | (obtain ⟨_, _, _, _, _, _, _, _, _, _, _, _, _, _, _, _, _, h, _⟩ := h; rw [h]; rfl) | (obtain ⟨_, _, _, _, _, _, _, _, _, _, _, _, _, _, _, _, _, _, h, _⟩ := h; rw [h]; rfl) | (obtain ⟨_, _, _, _, _, _, _, _, _, _, _, _, _, _, _, _, _, _, _, h, _⟩ := h; rw [h]; rfl)
def T_PlainRun_weighed (K : PySem.W.Frag) : Tr := fun ys M k => ∃ (ro : Addr) (i : Int), ys = [.v (.ref ro), .d (.int i)] ∧ i ≤ 1000 ∧ k (.d .none) M
theorem w_PlainRun_weighed {P : Program} {w : World} {K : PySem.W.Frag} {mg : Str → Option Value} {base : Heap} (E : Fx w K mg) {X : Cx} (C : Cxi X P w K mg base 0) (A : At X ["self", "many"] (defScope (inClass (top 71) 3)) true) {ys : List Sy} {M : Mem} {k : Sy → Mem → Prop} (hT : T_PlainRun_weighed K ys M k) :
    ExK X (startG ["self", "many"] ys) M (defBody (inClass (top 71) 3)) { nx := fun _ M' => Fz k (.d .none) M', rt := Fz k } := by
  have s0 : Slot X 0 "self" := A.slot (by decide +kernel)
  have s1 : Slot X 1 "many" := A.slot (by decide +kernel)
  have g_MOST_NUMBERS := E.g_MOST_NUMBERS
  obtain ⟨ro, i, rfl, h0, q⟩ := hT
  refine ex_open (by rfl) ?_
  repeat walk_at "sx"
theorem m_PlainRun_weighed {P : Program} {w : World} {K : PySem.W.Frag} {mg : Str → Option Value} {base : Heap} (E : Fx w K mg) : Mfn P w K mg base (He.ga K "PlainRun") "weighed" 1 (T_PlainRun_weighed K) := by
  obtain ⟨hm, fd, F⟩ := E.m_PlainRun_weighed
  refine ⟨⟨_, fd, ["self", "many"], def_okF (N := ["self", "many"]) F ⟨rfl, rfl, rfl, by decide +kernel, rfl, by decide +kernel, by decide +kernel⟩ (fun ys M k h => ?_) (fun X C A ys M k h => w_PlainRun_weighed E C A h), hm, F.bindsN fun _ _ _ _ _ _ us hl => match us, hl with | [_, _], _ => rfl⟩, E.c_PlainRun.2.2⟩
  unfold T_PlainRun_weighed at h
  first | (obtain ⟨h, _⟩ := h; rw [h]; rfl) | (obtain ⟨_, h, _⟩ := h; rw [h]; rfl) | (obtain ⟨_, _, h, _⟩ := h; rw [h]; rfl) | (obtain ⟨_, _, _, h, _⟩ := h; rw [h]; rfl) | (obtain ⟨_, _, _, _, h, _⟩ := h; rw [h]; rfl) | (obtain ⟨_, _, _, _, _, h, _⟩ := h; rw [h]; rfl) | (obtain ⟨_, _, _, _, _, _, h, _⟩ := h; rw [h]; rfl) | (obtain ⟨_, _, _, _, _, _, _, h, _⟩ := h; rw [h]; rfl) | (obtain ⟨_, _, _, _, _, _, _, _, h, _⟩ := h; rw [h]; rfl) | (obtain ⟨_, _, _, _, _, _, _, _, _, h, _⟩ := h; rw [h]; rfl) | (obtain ⟨_, _, _, _, _, _, _, _, _, _, h, _⟩ := h; rw [h]; rfl) | (obtain ⟨_, _, _, _, _, _, _, _, _, _, _, h, _⟩ := h; rw [h]; rfl) | (obtain ⟨_, _, _, _, _, _, _, _, _, _, _, _, h, _⟩ := h; rw [h]; rfl)
theorem code_hd (e : Ex) : ∃ r, code e = .tuple (.str (wordE e) :: r) := by cases e <;> exact ⟨_, rfl⟩
theorem w_PlainRun_come {P : Program} {w : World} {K : PySem.W.Frag} {mg : Str → Option Value} {base : Heap} (E : Fx w K mg) {h : Nat} (ih : h = 0 ∨ Mfn P w K mg base (He.ga K "PlainRun") "come" (2 * h + 8) (T_come K (h - 1))) {X : Cx} (C : Cxi X P w K mg base (2 * h + 9)) (A : At X ["self", "code", "scope", "numbers", "way", "value"] (defScope (inClass (top 104) 1)) true) {ys : List Sy} {M : Mem} {k : Sy → Mem → Prop} (hT : T_come K h ys M k) :
    ExK X (startG ["self", "code", "scope", "numbers", "way", "value"] ys) M (defBody (inClass (top 104) 1)) { nx := fun _ M' => Fz k (.d .none) M', rt := Fz k } := by
  have s0 : Slot X 0 "self" := A.slot (by decide +kernel)
  have s1 : Slot X 1 "code" := A.slot (by decide +kernel)
  have s2 : Slot X 2 "scope" := A.slot (by decide +kernel)
  have s3 : Slot X 3 "numbers" := A.slot (by decide +kernel)
  have s4 : Slot X 4 "way" := A.slot (by decide +kernel)
  have s5 : Slot X 5 "value" := A.slot (by decide +kernel)
  have g_WAYS := E.g_WAYS
  have d_heaviness := d_heaviness (P := P) (w := w) (K := K) (mg := mg) (base := base) E
  obtain ⟨e, ro, g, r, nn, sm, nm, κ, rfl, ⟨hh, hR, hTy, hS, hn⟩, q⟩ := hT.go
  obtain ⟨dx, fs, hro, hl1, hl2⟩ := id hR
  have mw := m_PlainRun_weighed (P := P) (base := base) E
  obtain ⟨f, T, j, hj, t1, a1, hT2⟩ : ∃ (f : Addr) (T : Tr) (j : Nat), j ≤ 2 * h + 9 ∧ KDct K w (He.ga K "WAYS") (wordE e) (.ref f) ∧ Fat P w K mg base f j T ∧ ∀ k : Sy → Mem → Prop, k (.d (.int (vl e r))) M → T [.v (.ref ro), .d (code e), .dk nn sm, .dk 0 nm] M k := by
    cases e with
    | num n =>
      exact ⟨_, _, _, by omega, E.t_WAYS_number, a_number_come (P := P) (base := base) E, fun k hk => .mk ⟨ro, n, nn, sm, nm, rfl, hk⟩⟩
    | nm x =>
      exact ⟨_, _, _, by omega, E.t_WAYS_name, a_name_come (P := P) (base := base) E, fun k hk => .mk ⟨ro, x, r x, nn, sm, nm, rfl, hS.2.2 x κ hTy.2, hk⟩⟩
    | len n =>
      exact ⟨_, _, _, by omega, E.t_WAYS_length, a_length_come (P := P) (base := base) E, fun k hk => .mk ⟨ro, _, n, [], nn, sm, nm, rfl, hk⟩⟩
    | rk w1 a b =>
      have hc := ih.resolve_left (by simp only [ht] at hh; omega)
      exact ⟨_, _, _, by omega, E.t_WAYS_reckon, a_reckon_come (P := P) (base := base) E hc (by omega), fun k hk => .mk ⟨w1, a, b, ro, g, r, nn, sm, nm, κ, rfl, ⟨by omega, hR, hTy, hS, hn⟩, hk⟩⟩
    | ite a b d =>
      have hc := ih.resolve_left (by simp only [ht] at hh; omega)
      exact ⟨_, _, _, by omega, E.t_WAYS_if, a_if_come (P := P) (base := base) E hc (by omega), fun k hk => .mk ⟨a, b, d, ro, g, r, nn, sm, nm, κ, rfl, ⟨by omega, hR, hTy, hS, hn⟩, hk⟩⟩
    | lt x a b =>
      have hc := ih.resolve_left (by simp only [ht] at hh; omega)
      exact ⟨_, _, _, by omega, E.t_WAYS_let, a_let_come (P := P) (base := base) E hc (by omega), fun k hk => .mk ⟨x, a, b, ro, g, r, nn, sm, nm, κ, rfl, ⟨by omega, hR, hTy, hS, hn⟩, hk⟩⟩
    | pl a b =>
      exact ⟨_, _, _, by omega, E.t_WAYS_place, a_length_come (P := P) (base := base) E, fun k hk => .mk ⟨ro, _, a, [lenD b], nn, sm, nm, rfl, hk⟩⟩
    | va a =>
      have hc := ih.resolve_left (by simp only [ht] at hh; omega)
      exact ⟨_, _, _, by omega, E.t_WAYS_value, a_value_come (P := P) (base := base) E hc (by omega), fun k hk => .mk ⟨a, ro, g, r, nn, sm, nm, κ, rfl, ⟨by omega, hR, hTy, hS, hn⟩, hk⟩⟩
    | up n a =>
      have hc := ih.resolve_left (by simp only [ht] at hh; omega)
      exact ⟨_, _, _, by omega, E.t_WAYS_up, a_up_come (P := P) (base := base) E hc (by omega), fun k hk => .mk ⟨n, a, ro, g, r, nn, sm, nm, κ, rfl, ⟨by omega, hR, hTy, hS, hn⟩, hk⟩⟩
    | wi n a =>
      have hc := ih.resolve_left (by simp only [ht] at hh; omega)
      exact ⟨_, _, _, by omega, E.t_WAYS_wide, a_wide_come (P := P) (base := base) E hc (by omega), fun k hk => .mk ⟨n, a, ro, g, r, nn, sm, nm, κ, rfl, ⟨by omega, hR, hTy, hS, hn⟩, hk⟩⟩
    | mi l a =>
      have hc := ih.resolve_left (by simp only [ht] at hh; omega)
      exact ⟨_, _, _, by omega, E.t_WAYS_mirror, a_mirror_come (P := P) (base := base) E hc (by omega), fun k hk => .mk ⟨l, a, ro, g, r, nn, sm, nm, κ, rfl, ⟨by omega, hR, hTy, hS, hn⟩, hk⟩⟩
    | fk n p x a b =>
      have hc := ih.resolve_left (by simp only [ht] at hh; omega)
      exact ⟨_, _, _, by omega, E.t_WAYS_fork, a_fork_come (P := P) (base := base) E hc (by omega), fun k hk => .mk ⟨n, p, x, a, b, ro, g, r, nn, sm, nm, κ, rfl, ⟨by omega, hR, hTy, hS, hn⟩, hk⟩⟩
    | wh a n x b d =>
      have hc := ih.resolve_left (by simp only [ht] at hh; omega)
      exact ⟨_, _, _, by omega, E.t_WAYS_when, a_when_come (P := P) (base := base) E hc (by omega), fun k hk => .mk ⟨a, n, x, b, d, ro, g, r, nn, sm, nm, κ, rfl, ⟨by omega, hR, hTy, hS, hn⟩, hk⟩⟩
  obtain ⟨rest, hc⟩ := code_hd e
  rw [hc] at hT2 ⊢
  refine ex_open (by rfl) ?_
  repeat walk_at "sx"
  refine hT2 _ ?_
  repeat walk_at "sx"
  by_cases hw : wordE e = "name"
  · refine ifF (by rw [decide_eq_true hw]; rfl) ?_
    repeat walk_at "sx"
    try exact .is q
  · refine ifT (by rw [decide_eq_false hw]; rfl) ?_
    repeat walk_at "sx"
    refine .mk ⟨_, _, _, rfl, hro, hl2, ?_⟩
    repeat walk_at "sx"
    try exact .is q
theorem m1_PlainRun_come {P : Program} {w : World} {K : PySem.W.Frag} {mg : Str → Option Value} {base : Heap} (E : Fx w K mg) {h : Nat} (ih : h = 0 ∨ Mfn P w K mg base (He.ga K "PlainRun") "come" (2 * h + 8) (T_come K (h - 1))) : Mfn P w K mg base (He.ga K "PlainRun") "come" (2 * h + 9 + 1) (T_come K h) := by
  obtain ⟨hm, fd, F⟩ := E.m_PlainRun_come
  refine ⟨⟨_, fd, ["self", "code", "scope", "numbers"], def_okF (N := ["self", "code", "scope", "numbers", "way", "value"]) F ⟨rfl, rfl, rfl, by decide +kernel, rfl, by decide +kernel, by decide +kernel⟩ (fun ys M k h => ?_) (fun X C A ys M k h => w_PlainRun_come E ih C A h), hm, F.bindsN fun _ _ _ _ _ _ us hl => match us, hl with | [_, _, _, _], _ => rfl⟩, E.c_PlainRun.2.2⟩
  replace h := Stop.go h
  first | (obtain ⟨h, _⟩ := h; rw [h]; rfl) | (obtain ⟨_, h, _⟩ := h; rw [h]; rfl) | (obtain ⟨_, _, h, _⟩ := h; rw [h]; rfl) | (obtain ⟨_, _, _, h, _⟩ := h; rw [h]; rfl) | (obtain ⟨_, _, _, _, h, _⟩ := h; rw [h]; rfl) | (obtain ⟨_, _, _, _, _, h, _⟩ := h; rw [h]; rfl) | (obtain ⟨_, _, _, _, _, _, h, _⟩ := h; rw [h]; rfl) | (obtain ⟨_, _, _, _, _, _, _, h, _⟩ := h; rw [h]; rfl) | (obtain ⟨_, _, _, _, _, _, _, _, h, _⟩ := h; rw [h]; rfl) | (obtain ⟨_, _, _, _, _, _, _, _, _, h, _⟩ := h; rw [h]; rfl) | (obtain ⟨_, _, _, _, _, _, _, _, _, _, h, _⟩ := h; rw [h]; rfl) | (obtain ⟨_, _, _, _, _, _, _, _, _, _, _, h, _⟩ := h; rw [h]; rfl) | (obtain ⟨_, _, _, _, _, _, _, _, _, _, _, _, h, _⟩ := h; rw [h]; rfl) | (obtain ⟨_, _, _, _, _, _, _, _, _, _, _, _, _, h, _⟩ := h; rw [h]; rfl) | (obtain ⟨_, _, _, _, _, _, _, _, _, _, _, _, _, _, h, _⟩ := h; rw [h]; rfl) | (obtain ⟨_, _, _, _, _, _, _, _, _, _, _, _, _, _, _, h, _⟩ := h; rw [h]; rfl) | (obtain ⟨_, _, _, _, _, _, _, _, _, _, _, _, _, _, _, _, h, _⟩ := h; rw [h]; rfl) | (obtain ⟨_, _, _, _, _, _, _, _, _, _, _, _, _, _, _, _, _, h, _⟩ := h; rw [h]; rfl) | (obtain ⟨_, _, _, _, _, _, _, _, _, _, _, _, _, _, _, _, _, _, h, _⟩ := h; rw [h]; rfl) | (obtain ⟨_, _, _, _, _, _, _, _, _, _, _, _, _, _, _, _, _, _, _, h, _⟩ := h; rw [h]; rfl)
theorem m_PlainRun_come {P : Program} {w : World} {K : PySem.W.Frag} {mg : Str → Option Value} {base : Heap} (E : Fx w K mg) : ∀ h : Nat, Mfn P w K mg base (He.ga K "PlainRun") "come" (2 * h + 10) (T_come K h)
  | 0 => m1_PlainRun_come E (.inl rfl)
  | h + 1 => by
    have q := m_PlainRun_come (P := P) (base := base) E h
    have e : 2 * (h + 1) + 8 = 2 * h + 10 := by omega
    exact m1_PlainRun_come E (h := h + 1) (.inr (by rw [e]; exact q))
theorem w_Finder_kind_of {P : Program} {w : World} {K : PySem.W.Frag} {mg : Str → Option Value} {base : Heap} (E : Fx w K mg) {h : Nat} (ih : h = 0 ∨ Mfn P w K mg base (He.ga K "Finder") "kind_of" (3 * h + 8) (T_kindof K (h - 1))) {X : Cx} (C : Cxi X P w K mg base (3 * h + 10)) (A : At X ["self", "expression", "scope", "node", "deed", "kind"] (defScope (inClass (top 114) 1)) true) {ys : List Sy} {M : Mem} {k : Sy → Mem → Prop} (hT : T_kindof K h ys M k) :
    ExK X (startG ["self", "expression", "scope", "node", "deed", "kind"] ys) M (defBody (inClass (top 114) 1)) { nx := fun _ M' => Fz k (.d .none) M', rt := Fz k } := by
  have s0 : Slot X 0 "self" := A.slot (by decide +kernel)
  have s1 : Slot X 1 "expression" := A.slot (by decide +kernel)
  have s2 : Slot X 2 "scope" := A.slot (by decide +kernel)
  have s3 : Slot X 3 "node" := A.slot (by decide +kernel)
  have s4 : Slot X 4 "deed" := A.slot (by decide +kernel)
  have s5 : Slot X 5 "kind" := A.slot (by decide +kernel)
  have g_DEEDS := E.g_DEEDS
  have d_is_kind := d_is_kind (P := P) (w := w) (K := K) (mg := mg) (base := base) E
  obtain ⟨e, fi, fo, kd, dx, r, c, nk, mm, g, nn, sm, κ, rfl, ⟨hh, F, hTy, hS, hn, hk2⟩, q⟩ := hT.go
  have hok := ty_ok hTy
  have l1 := E.l_DEEDS
  have F1 := F.count (c' := c + 1)
  have hz := sz_pos e
  obtain ⟨f, T, j, hj, t1, a1, hT2⟩ : ∃ (f : Addr) (T : Tr) (j : Nat), j ≤ 3 * h + 10 ∧ KDct K w (He.ga K "DEEDS") (wordE e) (.ref f) ∧ Fat P w K mg base f j T ∧ ∀ k : Sy → Mem → Prop, (∀ M1 mm1, Aft K (updM M fi (.ins (He.ga K "Finder") dx (finO fo r (c + 1)))) M1 fi fo kd dx r (c + 1) (c + 1 + (sz e : Nat) - 1) nk (nk + sz e - 1) mm mm1 → KnK mm1 r (c + 1) e → k (.d (encK κ)) M1) → T [.v (.ref fi), .d (enc e), .d (.int (c + 1)), .dk nn sm] (updM M fi (.ins (He.ga K "Finder") dx (finO fo r (c + 1)))) k := by
    cases e with
    | num n =>
      refine ⟨_, _, _, ?_, E.t_DEEDS_number, a_whole_kind (P := P) (base := base) E, fun k hk => ?_⟩
      · omega
      have hk2 := hk _ mm ((Aft.refl F1).cast (by simp only [sz] <;> omega) (by simp only [sz] <;> omega)) True.intro
      obtain rfl := hTy.1
      exact .mk ⟨fi, _, c + 1, nn, sm, rfl, hk2⟩
    | nm x =>
      refine ⟨_, _, _, ?_, E.t_DEEDS_name, a_name_kind (P := P) (base := base) E, fun k hk => ?_⟩
      · omega
      have hk2 := hk _ mm ((Aft.refl F1).cast (by simp only [sz] <;> omega) (by simp only [sz] <;> omega)) True.intro
      exact .mk ⟨fi, x, c + 1, nn, sm, encK κ, rfl, hS.2 x κ hTy.2, hk2⟩
    | len n =>
      refine ⟨_, _, _, ?_, E.t_DEEDS_length, a_length_kind (P := P) (base := base) E, fun k hk => ?_⟩
      · omega
      have hk2 := hk _ mm ((Aft.refl F1).cast (by simp only [sz] <;> omega) (by simp only [sz] <;> omega)) True.intro
      obtain rfl := hTy.1
      exact .mk ⟨fi, fo, dx, r, c + 1, n, c + 1, nn, sm, rfl, F1.fi_, hk2⟩
    | rk w1 a b =>
      have hc := ih.resolve_left (by simp only [ht] at hh; omega)
      exact ⟨_, _, _, by omega, E.t_DEEDS_reckon, a_reckon_kind (P := P) (base := base) E hc (by omega), fun k hk => .mk ⟨w1, a, b, fi, fo, kd, dx, r, c + 1, nk, mm, g, nn, sm, κ, rfl, ⟨by omega, F1, hTy, hS, hn, hk2⟩, hk⟩⟩
    | ite a b d =>
      have hc := ih.resolve_left (by simp only [ht] at hh; omega)
      exact ⟨_, _, _, by omega, E.t_DEEDS_if, a_if_kind (P := P) (base := base) E hc (by omega), fun k hk => .mk ⟨a, b, d, fi, fo, kd, dx, r, c + 1, nk, mm, g, nn, sm, κ, rfl, ⟨by omega, F1, hTy, hS, hn, hk2⟩, hk⟩⟩
    | lt x a b =>
      have hc := ih.resolve_left (by simp only [ht] at hh; omega)
      exact ⟨_, _, _, by omega, E.t_DEEDS_let, a_let_kind (P := P) (base := base) E hc (by omega), fun k hk => .mk ⟨x, a, b, fi, fo, kd, dx, r, c + 1, nk, mm, g, nn, sm, κ, rfl, ⟨by omega, F1, hTy, hS, hn, hk2⟩, hk⟩⟩
    | pl a b =>
      refine ⟨_, _, _, ?_, E.t_DEEDS_place, a_place_kind (P := P) (base := base) E, fun k hk => ?_⟩
      · omega
      have hk2 := hk _ mm ((Aft.refl F1).cast (by simp only [sz] <;> omega) (by simp only [sz] <;> omega)) True.intro
      obtain rfl := hTy.1
      exact .mk ⟨fi, fo, dx, r, c + 1, a, b, c + 1, nn, sm, rfl, ⟨F1.fi_, hTy.2.2.1⟩, hk2⟩
    | va a =>
      have hc := ih.resolve_left (by simp only [ht] at hh; omega)
      exact ⟨_, _, _, by omega, E.t_DEEDS_value, a_value_kind (P := P) (base := base) E hc (by omega), fun k hk => .mk ⟨a, fi, fo, kd, dx, r, c + 1, nk, mm, g, nn, sm, κ, rfl, ⟨by omega, F1, hTy, hS, hn, hk2⟩, hk⟩⟩
    | up n a =>
      have hc := ih.resolve_left (by simp only [ht] at hh; omega)
      exact ⟨_, _, _, by omega, E.t_DEEDS_up, a_up_kind (P := P) (base := base) E hc (by omega), fun k hk => .mk ⟨n, a, fi, fo, kd, dx, r, c + 1, nk, mm, g, nn, sm, κ, rfl, ⟨by omega, F1, hTy, hS, hn, hk2⟩, hk⟩⟩
    | wi n a =>
      have hc := ih.resolve_left (by simp only [ht] at hh; omega)
      exact ⟨_, _, _, by omega, E.t_DEEDS_wide, a_wide_kind (P := P) (base := base) E hc (by omega), fun k hk => .mk ⟨n, a, fi, fo, kd, dx, r, c + 1, nk, mm, g, nn, sm, κ, rfl, ⟨by omega, F1, hTy, hS, hn, hk2⟩, hk⟩⟩
    | mi l a =>
      have hc := ih.resolve_left (by simp only [ht] at hh; omega)
      exact ⟨_, _, _, by omega, E.t_DEEDS_mirror, a_mirror_kind (P := P) (base := base) E hc (by omega), fun k hk => .mk ⟨l, a, fi, fo, kd, dx, r, c + 1, nk, mm, g, nn, sm, κ, rfl, ⟨by omega, F1, hTy, hS, hn, hk2⟩, hk⟩⟩
    | fk n p x a b =>
      have hc := ih.resolve_left (by simp only [ht] at hh; omega)
      exact ⟨_, _, _, by omega, E.t_DEEDS_fork, a_fork_kind (P := P) (base := base) E hc (by omega), fun k hk => .mk ⟨n, p, x, a, b, fi, fo, kd, dx, r, c + 1, nk, mm, g, nn, sm, κ, rfl, ⟨by omega, F1, hTy, hS, hn, hk2⟩, hk⟩⟩
    | wh a n x b d =>
      have hc := ih.resolve_left (by simp only [ht] at hh; omega)
      exact ⟨_, _, _, by omega, E.t_DEEDS_when, a_when_kind (P := P) (base := base) E hc (by omega), fun k hk => .mk ⟨a, n, x, b, d, fi, fo, kd, dx, r, c + 1, nk, mm, g, nn, sm, κ, rfl, ⟨by omega, F1, hTy, hS, hn, hk2⟩, hk⟩⟩
  rw [enc_eq] at hT2 ⊢
  refine ex_open (by rfl) ?_
  repeat walk_at "sx"
  refine .mk ⟨_, _, _, _, _, rfl, F.fi_, E.c_Finder.2.2, E.n_Finder_count, fl_count, ?_⟩
  repeat walk_at "sx"
  refine .mk ⟨_, _, _, rfl, F.fi_, Nat.le_of_ble_eq_true rfl, ?_⟩
  rw [put_count]
  repeat walk_at "sx"
  refine .mk ⟨_, _, _, _, _, rfl, F1.fi_, E.c_Finder.2.2, E.n_Finder_count, fl_count, ?_⟩
  repeat walk_at "sx"
  refine hT2 _ fun M1 mm1 A1 K1 => ?_
  have F2 := F1.after A1
  repeat walk_at "sx"
  refine .mk ⟨_, _, _, _, _, rfl, F2.fi_, E.c_Finder.2.2, E.n_Finder_finds, fl_finds, ?_⟩
  repeat walk_at "sx"
  obtain ⟨dx2, fs2, g1, g2⟩ := F2.fo_
  refine .mk ⟨_, _, _, _, _, rfl, g1, E.c_Found.2.2, E.n_Found_kinds, g2, ?_⟩
  repeat walk_at "sx"
  refine .mk ⟨_, _, _, _, _, rfl, F2.fi_, E.c_Finder.2.2, E.n_Finder_row, fl_row, ?_⟩
  repeat walk_at "sx"
  refine .mk ⟨kd, _, _, [.inl r, .inl (c + 1)], encK κ, rfl, rfl, rfl, Nat.le_of_ble_eq_true rfl, F2.kd_, by omega, ?_⟩
  repeat walk_at "sx"
  exact .is (q _ _ ((node_done F A1 (by omega)).cast (by omega) (by omega)) (node_kn K1 hTy))
theorem m1_Finder_kind_of {P : Program} {w : World} {K : PySem.W.Frag} {mg : Str → Option Value} {base : Heap} (E : Fx w K mg) {h : Nat} (ih : h = 0 ∨ Mfn P w K mg base (He.ga K "Finder") "kind_of" (3 * h + 8) (T_kindof K (h - 1))) : Mfn P w K mg base (He.ga K "Finder") "kind_of" (3 * h + 10 + 1) (T_kindof K h) := by
  obtain ⟨hm, fd, F⟩ := E.m_Finder_kind_of
  refine ⟨⟨_, fd, ["self", "expression", "scope"], def_okF (N := ["self", "expression", "scope", "node", "deed", "kind"]) F ⟨rfl, rfl, rfl, by decide +kernel, rfl, by decide +kernel, by decide +kernel⟩ (fun ys M k h => ?_) (fun X C A ys M k h => w_Finder_kind_of E ih C A h), hm, F.bindsN fun _ _ _ _ _ _ us hl => match us, hl with | [_, _, _], _ => rfl⟩, E.c_Finder.2.2⟩
  replace h := Stop.go h
  first | (obtain ⟨h, _⟩ := h; rw [h]; rfl) | (obtain ⟨_, h, _⟩ := h; rw [h]; rfl) | (obtain ⟨_, _, h, _⟩ := h; rw [h]; rfl) | (obtain ⟨_, _, _, h, _⟩ := h; rw [h]; rfl) | (obtain ⟨_, _, _, _, h, _⟩ := h; rw [h]; rfl) | (obtain ⟨_, _, _, _, _, h, _⟩ := h; rw [h]; rfl) | (obtain ⟨_, _, _, _, _, _, h, _⟩ := h; rw [h]; rfl) | (obtain ⟨_, _, _, _, _, _, _, h, _⟩ := h; rw [h]; rfl) | (obtain ⟨_, _, _, _, _, _, _, _, h, _⟩ := h; rw [h]; rfl) | (obtain ⟨_, _, _, _, _, _, _, _, _, h, _⟩ := h; rw [h]; rfl) | (obtain ⟨_, _, _, _, _, _, _, _, _, _, h, _⟩ := h; rw [h]; rfl) | (obtain ⟨_, _, _, _, _, _, _, _, _, _, _, h, _⟩ := h; rw [h]; rfl) | (obtain ⟨_, _, _, _, _, _, _, _, _, _, _, _, h, _⟩ := h; rw [h]; rfl) | (obtain ⟨_, _, _, _, _, _, _, _, _, _, _, _, _, h, _⟩ := h; rw [h]; rfl) | (obtain ⟨_, _, _, _, _, _, _, _, _, _, _, _, _, _, h, _⟩ := h; rw [h]; rfl) | (obtain ⟨_, _, _, _, _, _, _, _, _, _, _, _, _, _, _, h, _⟩ := h; rw [h]; rfl) | (obtain ⟨_, _, _, _, _, _, _, _, _, _, _, _, _, _, _, _, h, _⟩ := h; rw [h]; rfl) | (obtain ⟨_, _, _, _, _, _, _, _, _, _, _, _, _, _, _, _, _, h, _⟩ := h; rw [h]; rfl) | (obtain ⟨_, _, _, _, _, _, _, _, _, _, _, _, _, _, _, _, _, _, h, _⟩ := h; rw [h]; rfl) | (obtain ⟨_, _, _, _, _, _, _, _, _, _, _, _, _, _, _, _, _, _, _, h, _⟩ := h; rw [h]; rfl)
theorem m_Finder_kind_of {P : Program} {w : World} {K : PySem.W.Frag} {mg : Str → Option Value} {base : Heap} (E : Fx w K mg) : ∀ h : Nat, Mfn P w K mg base (He.ga K "Finder") "kind_of" (3 * h + 11) (T_kindof K h)
  | 0 => m1_Finder_kind_of E (.inl rfl)
  | h + 1 => by
    have q := m_Finder_kind_of (P := P) (base := base) E h
    have e : 3 * (h + 1) + 8 = 3 * h + 11 := by omega
    exact m1_Finder_kind_of E (h := h + 1) (.inr (by rw [e]; exact q))
local macro_rules | `(tactic| walk_at "sxEv") => `(tactic| first
  | ((with_reducible refine ev_makeS (by assumption) (by assumption) (by omega) ?_ ?_ ?_ ?_); walk_at "gl"; rotate_left; rfl; rfl)
  | ((with_reducible refine ev_meth0S (by assumption) (by assumption) (by omega) ?_ ?_); rotate_left; rfl)
  | ((with_reducible refine ev_clsCallS (by assumption) (by assumption) (by omega) ?_ ?_ ?_ ?_); rotate_left; rfl; rfl; rfl)
  | with_reducible refine ev_neg1 ?_)
local macro_rules | `(tactic| walk_at "sxIt") => `(tactic| first
  | with_reducible refine it_tupL (by with_unfolding_all rfl) ?_)

def T_Finder___init__ (K : PySem.W.Frag) : Tr := fun ys M k => Stop (∃ (fi fo dx : Addr) (r : Int), ys = [.v (.ref fi), .v (.ref fo), .d (.int r), .d (.tuple [])] ∧ M fi = some (.ins (He.ga K "Finder") dx []) ∧ k (.d .none) (updM M fi (.ins (He.ga K "Finder") dx (finO fo r 0))))
theorem w_Finder___init__ {P : Program} {w : World} {K : PySem.W.Frag} {mg : Str → Option Value} {base : Heap} (E : Fx w K mg) {X : Cx} (C : Cxi X P w K mg base 0) (A : At X ["self", "finds", "row", "names"] (defScope (inClass (top 114) 0)) true) {ys : List Sy} {M : Mem} {k : Sy → Mem → Prop} (hT : T_Finder___init__ K ys M k) :
    ExK X (startG ["self", "finds", "row", "names"] ys) M (defBody (inClass (top 114) 0)) { nx := fun _ M' => Fz k (.d .none) M', rt := Fz k } := by
  have s0 : Slot X 0 "self" := A.slot (by decide +kernel)
  have s1 : Slot X 1 "finds" := A.slot (by decide +kernel)
  have s2 : Slot X 2 "row" := A.slot (by decide +kernel)
  have s3 : Slot X 3 "names" := A.slot (by decide +kernel)
  obtain ⟨fi, fo, dx, r, rfl, hfi, q⟩ := hT.go
  refine ex_open (by rfl) ?_
  repeat walk_at "sx"
  refine .mk ⟨_, _, _, _, rfl, hfi, E.c_Finder.2.2, E.n_Finder_finds, (Nat.le_of_ble_eq_true rfl), ?_⟩
  refine ex_M (congrArg (fun z => updM _ _ (.ins _ _ z)) (show _ = ([("finds", .v (.ref fo))] : List (Str × Sy)) by with_unfolding_all rfl)) ?_
  repeat walk_at "sx"
  refine .mk ⟨_, _, _, _, rfl, updM_same, E.c_Finder.2.2, E.n_Finder_row, (Nat.le_of_ble_eq_true rfl), ?_⟩
  refine ex_M (congrArg (fun z => updM _ _ (.ins _ _ z)) (show _ = ([("finds", .v (.ref fo)), ("row", .d (.int r))] : List (Str × Sy)) by with_unfolding_all rfl)) ?_
  try simp only [updM_updM]
  repeat walk_at "sx"
  refine .mk ⟨_, _, _, _, rfl, updM_same, E.c_Finder.2.2, E.n_Finder_names, (Nat.le_of_ble_eq_true rfl), ?_⟩
  refine ex_M (congrArg (fun z => updM _ _ (.ins _ _ z)) (show _ = ([("finds", .v (.ref fo)), ("row", .d (.int r)), ("names", .d (.tuple []))] : List (Str × Sy)) by with_unfolding_all rfl)) ?_
  try simp only [updM_updM]
  repeat walk_at "sx"
  refine .mk ⟨_, _, _, _, rfl, updM_same, E.c_Finder.2.2, E.n_Finder_count, (Nat.le_of_ble_eq_true rfl), ?_⟩
  refine ex_M (congrArg (fun z => updM _ _ (.ins _ _ z)) (show _ = (finO fo r 0 : List (Str × Sy)) by with_unfolding_all rfl)) ?_
  try simp only [updM_updM]
  repeat walk_at "sx"
  try exact .is q
theorem m_Finder___init__ {P : Program} {w : World} {K : PySem.W.Frag} {mg : Str → Option Value} {base : Heap} (E : Fx w K mg) : Mak P w K mg base "Finder" (He.ga K "Finder") 1 (T_Finder___init__ K) := by
  obtain ⟨hm, fd, F⟩ := E.m_Finder___init__
  refine ⟨⟨_, fd, ["self", "finds", "row", "names"], def_okF (N := ["self", "finds", "row", "names"]) F ⟨rfl, rfl, rfl, by decide +kernel, rfl, by decide +kernel, by decide +kernel⟩ (fun ys M k h => ?_) (fun X C A ys M k h => w_Finder___init__ E C A h), E.c_Finder.2.1, F.bindsN fun _ _ _ _ _ _ us hl => match us, hl with | [_, _, _, _], _ => rfl⟩, E.c_Finder.1, by decide⟩
  replace h := Stop.go h
  first | (obtain ⟨h, _⟩ := h; rw [h]; rfl) | (obtain ⟨_, h, _⟩ := h; rw [h]; rfl) | (obtain ⟨_, _, h, _⟩ := h; rw [h]; rfl) | (obtain ⟨_, _, _, h, _⟩ := h; rw [h]; rfl) | (obtain ⟨_, _, _, _, h, _⟩ := h; rw [h]; rfl) | (obtain ⟨_, _, _, _, _, h, _⟩ := h; rw [h]; rfl) | (obtain ⟨_, _, _, _, _, _, h, _⟩ := h; rw [h]; rfl) | (obtain ⟨_, _, _, _, _, _, _, h, _⟩ := h; rw [h]; rfl) | (obtain ⟨_, _, _, _, _, _, _, _, h, _⟩ := h; rw [h]; rfl) | (obtain ⟨_, _, _, _, _, _, _, _, _, h, _⟩ := h; rw [h]; rfl) | (obtain ⟨_, _, _, _, _, _, _, _, _, _, h, _⟩ := h; rw [h]; rfl) | (obtain ⟨_, _, _, _, _, _, _, _, _, _, _, h, _⟩ := h; rw [h]; rfl) | (obtain ⟨_, _, _, _, _, _, _, _, _, _, _, _, h, _⟩ := h; rw [h]; rfl)
def T_Run___init__ (K : PySem.W.Frag) : Tr := fun ys M k => Stop (∃ (ro dx : Addr), ys = [.v (.ref ro)] ∧ M ro = some (.ins (He.ga K "PlainRun") dx []) ∧ k (.d .none) (updM M ro (.ins (He.ga K "PlainRun") dx [("steps", .d (.int 0))])))
theorem w_Run___init__ {P : Program} {w : World} {K : PySem.W.Frag} {mg : Str → Option Value} {base : Heap} (E : Fx w K mg) {X : Cx} (C : Cxi X P w K mg base 0) (A : At X ["self"] (defScope (inClass (top 71) 0)) true) {ys : List Sy} {M : Mem} {k : Sy → Mem → Prop} (hT : T_Run___init__ K ys M k) :
    ExK X (startG ["self"] ys) M (defBody (inClass (top 71) 0)) { nx := fun _ M' => Fz k (.d .none) M', rt := Fz k } := by
  have s0 : Slot X 0 "self" := A.slot (by decide +kernel)
  obtain ⟨ro, dx, rfl, hro, q⟩ := hT.go
  refine ex_open (by rfl) ?_
  repeat walk_at "sx"
  refine .mk ⟨_, _, _, _, rfl, hro, E.c_PlainRun.2.2, E.n_PlainRun_steps, (Nat.le_of_ble_eq_true rfl), ?_⟩
  refine ex_M (congrArg (fun z => updM _ _ (.ins _ _ z)) (show _ = ([("steps", .d (.int 0))] : List (Str × Sy)) by with_unfolding_all rfl)) ?_
  repeat walk_at "sx"
  try exact .is q
theorem m_Run___init__ {P : Program} {w : World} {K : PySem.W.Frag} {mg : Str → Option Value} {base : Heap} (E : Fx w K mg) : Cfn P w K mg base (He.ga K "Run") "__init__" 1 (T_Run___init__ K) := by
  obtain ⟨hm, fd, F⟩ := E.m_Run___init__
  refine ⟨_, fd, ["self"], .type "type", def_okF (N := ["self"]) F ⟨rfl, rfl, rfl, by decide +kernel, rfl, by decide +kernel, by decide +kernel⟩ (fun ys M k h => ?_) (fun X C A ys M k h => w_Run___init__ E C A h), E.c_Run.2.1, E.c_Run.2.2, F.kp, F.bindsN fun _ _ _ _ _ _ us hl => match us, hl with | [_], _ => rfl⟩
  replace h := Stop.go h
  first | (obtain ⟨h, _⟩ := h; rw [h]; rfl) | (obtain ⟨_, h, _⟩ := h; rw [h]; rfl) | (obtain ⟨_, _, h, _⟩ := h; rw [h]; rfl) | (obtain ⟨_, _, _, h, _⟩ := h; rw [h]; rfl) | (obtain ⟨_, _, _, _, h, _⟩ := h; rw [h]; rfl) | (obtain ⟨_, _, _, _, _, h, _⟩ := h; rw [h]; rfl) | (obtain ⟨_, _, _, _, _, _, h, _⟩ := h; rw [h]; rfl) | (obtain ⟨_, _, _, _, _, _, _, h, _⟩ := h; rw [h]; rfl) | (obtain ⟨_, _, _, _, _, _, _, _, h, _⟩ := h; rw [h]; rfl) | (obtain ⟨_, _, _, _, _, _, _, _, _, h, _⟩ := h; rw [h]; rfl) | (obtain ⟨_, _, _, _, _, _, _, _, _, _, h, _⟩ := h; rw [h]; rfl) | (obtain ⟨_, _, _, _, _, _, _, _, _, _, _, h, _⟩ := h; rw [h]; rfl) | (obtain ⟨_, _, _, _, _, _, _, _, _, _, _, _, h, _⟩ := h; rw [h]; rfl)
def T_PlainRun_begin (K : PySem.W.Frag) : Tr := fun ys M k => Stop (∃ (ro dx fo as_ : Addr), ys = [.v (.ref ro)] ∧ M ro = some (.ins (He.ga K "PlainRun") dx (runO fo as_)) ∧ k (.d .none) M)
theorem w_PlainRun_begin {P : Program} {w : World} {K : PySem.W.Frag} {mg : Str → Option Value} {base : Heap} (E : Fx w K mg) {X : Cx} (C : Cxi X P w K mg base 0) (A : At X ["self"] (defScope (inClass (top 71) 1)) true) {ys : List Sy} {M : Mem} {k : Sy → Mem → Prop} (hT : T_PlainRun_begin K ys M k) :
    ExK X (startG ["self"] ys) M (defBody (inClass (top 71) 1)) { nx := fun _ M' => Fz k (.d .none) M', rt := Fz k } := by
  have s0 : Slot X 0 "self" := A.slot (by decide +kernel)
  obtain ⟨ro, dx, fo, as_, rfl, hro, q⟩ := hT.go
  refine ex_open (by rfl) ?_
  repeat walk_at "sx"
  refine .mk ⟨_, _, _, _, rfl, hro, E.c_PlainRun.2.2, E.n_PlainRun_steps, (Nat.le_of_ble_eq_true rfl), ?_⟩
  rw [put_steps, updM_self hro]
  repeat walk_at "sx"
theorem m_PlainRun_begin {P : Program} {w : World} {K : PySem.W.Frag} {mg : Str → Option Value} {base : Heap} (E : Fx w K mg) : Mfn P w K mg base (He.ga K "PlainRun") "begin" 1 (T_PlainRun_begin K) := by
  obtain ⟨hm, fd, F⟩ := E.m_PlainRun_begin
  refine ⟨⟨_, fd, ["self"], def_okF (N := ["self"]) F ⟨rfl, rfl, rfl, by decide +kernel, rfl, by decide +kernel, by decide +kernel⟩ (fun ys M k h => ?_) (fun X C A ys M k h => w_PlainRun_begin E C A h), hm, F.bindsN fun _ _ _ _ _ _ us hl => match us, hl with | [_], _ => rfl⟩, E.c_PlainRun.2.2⟩
  replace h := Stop.go h
  first | (obtain ⟨h, _⟩ := h; rw [h]; rfl) | (obtain ⟨_, h, _⟩ := h; rw [h]; rfl) | (obtain ⟨_, _, h, _⟩ := h; rw [h]; rfl) | (obtain ⟨_, _, _, h, _⟩ := h; rw [h]; rfl) | (obtain ⟨_, _, _, _, h, _⟩ := h; rw [h]; rfl) | (obtain ⟨_, _, _, _, _, h, _⟩ := h; rw [h]; rfl) | (obtain ⟨_, _, _, _, _, _, h, _⟩ := h; rw [h]; rfl) | (obtain ⟨_, _, _, _, _, _, _, h, _⟩ := h; rw [h]; rfl) | (obtain ⟨_, _, _, _, _, _, _, _, h, _⟩ := h; rw [h]; rfl) | (obtain ⟨_, _, _, _, _, _, _, _, _, h, _⟩ := h; rw [h]; rfl) | (obtain ⟨_, _, _, _, _, _, _, _, _, _, h, _⟩ := h; rw [h]; rfl) | (obtain ⟨_, _, _, _, _, _, _, _, _, _, _, h, _⟩ := h; rw [h]; rfl) | (obtain ⟨_, _, _, _, _, _, _, _, _, _, _, _, h, _⟩ := h; rw [h]; rfl)
def T_Found_rows (K : PySem.W.Frag) : Tr := fun ys M k => Stop (∃ (fo dx kd : Addr) (es : List Ex), ys = [.v (.ref fo)] ∧ M fo = some (.ins (He.ga K "Found") dx (foO es kd)) ∧ k (.sl ((es.map rowE).map Sy.d)) M)
theorem w_Found_rows {P : Program} {w : World} {K : PySem.W.Frag} {mg : Str → Option Value} {base : Heap} (E : Fx w K mg) {X : Cx} (C : Cxi X P w K mg base 0) (A : At X ["self"] (defScope (inClass (top 142) 1)) true) {ys : List Sy} {M : Mem} {k : Sy → Mem → Prop} (hT : T_Found_rows K ys M k) :
    ExK X (startG ["self"] ys) M (defBody (inClass (top 142) 1)) { nx := fun _ M' => Fz k (.d .none) M', rt := Fz k } := by
  have s0 : Slot X 0 "self" := A.slot (by decide +kernel)
  have b_list := E.bt_list
  obtain ⟨fo, dx, kd, es, rfl, hfo, q⟩ := hT.go
  refine ex_open (by rfl) ?_
  repeat walk_at "sx"
  refine .mk ⟨_, _, _, _, _, rfl, hfo, E.c_Found.2.2, E.n_Found_lines, fo_lines, ?_⟩
  repeat walk_at "sx"
theorem m_Found_rows {P : Program} {w : World} {K : PySem.W.Frag} {mg : Str → Option Value} {base : Heap} (E : Fx w K mg) : Mfn P w K mg base (He.ga K "Found") "rows" 1 (T_Found_rows K) := by
  obtain ⟨hm, fd, F⟩ := E.m_Found_rows
  refine ⟨⟨_, fd, ["self"], def_okF (N := ["self"]) F ⟨rfl, rfl, rfl, by decide +kernel, rfl, by decide +kernel, by decide +kernel⟩ (fun ys M k h => ?_) (fun X C A ys M k h => w_Found_rows E C A h), hm, F.bindsN fun _ _ _ _ _ _ us hl => match us, hl with | [_], _ => rfl⟩, E.c_Found.2.2⟩
  replace h := Stop.go h
  first | (obtain ⟨h, _⟩ := h; rw [h]; rfl) | (obtain ⟨_, h, _⟩ := h; rw [h]; rfl) | (obtain ⟨_, _, h, _⟩ := h; rw [h]; rfl) | (obtain ⟨_, _, _, h, _⟩ := h; rw [h]; rfl) | (obtain ⟨_, _, _, _, h, _⟩ := h; rw [h]; rfl) | (obtain ⟨_, _, _, _, _, h, _⟩ := h; rw [h]; rfl) | (obtain ⟨_, _, _, _, _, _, h, _⟩ := h; rw [h]; rfl) | (obtain ⟨_, _, _, _, _, _, _, h, _⟩ := h; rw [h]; rfl) | (obtain ⟨_, _, _, _, _, _, _, _, h, _⟩ := h; rw [h]; rfl) | (obtain ⟨_, _, _, _, _, _, _, _, _, h, _⟩ := h; rw [h]; rfl) | (obtain ⟨_, _, _, _, _, _, _, _, _, _, h, _⟩ := h; rw [h]; rfl) | (obtain ⟨_, _, _, _, _, _, _, _, _, _, _, h, _⟩ := h; rw [h]; rfl) | (obtain ⟨_, _, _, _, _, _, _, _, _, _, _, _, h, _⟩ := h; rw [h]; rfl)
def T_Found___init__ (K : PySem.W.Frag) : Tr := fun ys M k => Stop (∃ (fo dx : Addr) (es : List Ex), ys = [.v (.ref fo), .sl ((es.map rowE).map Sy.d)] ∧ (M fo = some (.ins (He.ga K "Found") dx []) ∧ es.length ≤ 12 ∧ ∀ e ∈ es, askOk e) ∧ ∀ M' kd mm nk, M' fo = some (.ins (He.ga K "Found") dx (foO es kd)) → M' kd = some (.dT nk mm) → (∀ (i : Nat) (e : Ex), es[i]? = some e → Kn mm i 1 e) → (∀ a t, a ≠ fo → M a = some t → M' a = some t) → k (.d .none) M')
theorem w_Found___init__ {P : Program} {w : World} {K : PySem.W.Frag} {mg : Str → Option Value} {base : Heap} (E : Fx w K mg) {X : Cx} (C : Cxi X P w K mg base 40) (A : At X ["self", "program", "number", "row", "word", "f", "names", "params", "expression", "result", "param"] (defScope (inClass (top 142) 0)) true) {ys : List Sy} {M : Mem} {k : Sy → Mem → Prop} (hT : T_Found___init__ K ys M k) :
    ExK X (startG ["self", "program", "number", "row", "word", "f", "names", "params", "expression", "result", "param"] ys) M (defBody (inClass (top 142) 0)) { nx := fun _ M' => Fz k (.d .none) M', rt := Fz k } := by
  have s0 : Slot X 0 "self" := A.slot (by decide +kernel)
  have s1 : Slot X 1 "program" := A.slot (by decide +kernel)
  have s2 : Slot X 2 "number" := A.slot (by decide +kernel)
  have s3 : Slot X 3 "row" := A.slot (by decide +kernel)
  have s4 : Slot X 4 "word" := A.slot (by decide +kernel)
  have s5 : Slot X 5 "f" := A.slot (by decide +kernel)
  have s6 : Slot X 6 "names" := A.slot (by decide +kernel)
  have s7 : Slot X 7 "params" := A.slot (by decide +kernel)
  have s8 : Slot X 8 "expression" := A.slot (by decide +kernel)
  have s9 : Slot X 9 "result" := A.slot (by decide +kernel)
  have d_checked := d_checked (P := P) (w := w) (K := K) (mg := mg) (base := base) E
  have b_enumerate := E.b_enumerate
  have b_dict := E.bt_dict
  have b_tuple := E.bt_tuple
  obtain ⟨fo, dx, es, rfl, ⟨hfo, hl, hes⟩, q⟩ := hT.go
  have hc : es.length ≤ 12 ∧ ∀ e ∈ es, exOk e := ⟨hl, fun e he => (hes e he).1⟩
  have mk := m_Finder_kind_of (P := P) (base := base) E 7
  have mi := m_Finder___init__ (P := P) (base := base) E
  refine ex_open (by rfl) ?_
  repeat walk_at "sx"
  refine .mk ⟨_, _, _, _, rfl, hfo, E.c_Found.2.2, E.n_Found_lines, (Nat.le_of_ble_eq_true rfl), ?_⟩
  refine ex_M (congrArg (fun z => updM _ _ (.ins _ _ z)) (show _ = ([("lines", .sl ((es.map rowE).map Sy.d))] : List (Str × Sy)) by with_unfolding_all rfl)) ?_
  repeat walk_at "sx"
  refine .mk ⟨_, _, _, _, rfl, updM_same, E.c_Found.2.2, E.n_Found_defs, (Nat.le_of_ble_eq_true rfl), ?_⟩
  refine ex_M (congrArg (fun z => updM _ _ (.ins _ _ z)) (show _ = ([("lines", .sl ((es.map rowE).map Sy.d)), ("defs", .dk 0 fun _ => none)] : List (Str × Sy)) by with_unfolding_all rfl)) ?_
  try simp only [updM_updM]
  refine ex_fldS C (ev_dnewT ?_) (by rfl)
  intro kd hkd
  have n1 : kd ≠ fo := fun z => by rw [z, updM_same] at hkd; cases hkd
  have hkd2 : M kd = none := by rw [updM_ne n1] at hkd; exact hkd
  repeat walk_at "sx"
  refine .mk ⟨_, _, _, _, rfl, (by rw [updM_ne n1.symm]; exact updM_same), E.c_Found.2.2, E.n_Found_kinds, (Nat.le_of_ble_eq_true rfl), ?_⟩
  refine ex_M (congrArg (fun z => updM _ _ (.ins _ _ z)) (show _ = ([("lines", .sl ((es.map rowE).map Sy.d)), ("defs", .dk 0 fun _ => none), ("kinds", .v (.ref kd))] : List (Str × Sy)) by with_unfolding_all rfl)) ?_
  repeat walk_at "sx"
  refine .mk ⟨_, _, _, _, rfl, updM_same, E.c_Found.2.2, E.n_Found_binds, (Nat.le_of_ble_eq_true rfl), ?_⟩
  refine ex_M (congrArg (fun z => updM _ _ (.ins _ _ z)) (show _ = (foO es kd : List (Str × Sy)) by with_unfolding_all rfl)) ?_
  try simp only [updM_updM]
  repeat walk_at "sx"
  refine ex_for C (bnd_tup C.nd C.calm (.cons s2 (.cons s3 .nil))) (pk_enum C (A.gl (by decide +kernel)) b_enumerate ?_) (by intro _; rfl)
  repeat walk_at "sx"
  refine .mk ⟨_, _, _, _, _, rfl, updM_same, E.c_Found.2.2, E.n_Found_lines, fo_lines, ?_⟩
  repeat walk_at "sx"
  refine ⟨enumL_ok, forL_inv (fun i G M' => Stop (∃ o1 o2 nk mm, G = [some (.v (.ref fo)), some (.sl ((es.map rowE).map Sy.d)), o1, o2, none, none, none, none, none, none, none] ∧ M' fo = some (.ins (He.ga K "Found") dx (foO es kd)) ∧ M' kd = some (.dT nk mm) ∧ nk ≤ 40 * i ∧ (∀ (j : Nat) (e : Ex), j < i → es[j]? = some e → Kn mm j 1 e) ∧ ∀ a t, a ≠ fo → M a = some t → M' a = some t)) 0 (.mk ⟨none, none, 0, fun _ => none, rfl, updM_same, ?_, by omega, fun j e hj => absurd hj (by omega), ?_⟩) ?_ ?_⟩
  · rw [updM_ne n1, updM_same]
  · intro a t ha h
    rw [updM_ne ha, updM_ne (neM h hkd2), updM_ne ha]
    exact h
  · intro i y G M1 hy hP
    obtain ⟨o1, o2, nk, mm, rfl, h1, h2, h3, h4, h5⟩ := hP.go
    obtain ⟨d, hd, rfl⟩ := enumL_get hy
    obtain ⟨e, he, rfl⟩ := row_get hd
    have hi : i < es.length := (List.getElem?_eq_some_iff.mp he).1
    have hok := hes e (List.mem_of_getElem? he)
    obtain ⟨⟨w1, w2, w3⟩, w4⟩ := hok
    repeat walk_at "sx"
    refine newI fun fi dxf hfi => ?_
    have m1 : fi ≠ fo := (neM h1 hfi).symm
    have m2 : fi ≠ kd := (neM h2 hfi).symm
    refine .mk ⟨fi, fo, dxf, _, rfl, updM_same, ?_⟩
    try simp only [updM_updM]
    repeat walk_at "sx"
    refine .mk ⟨_, _, _, rfl, updM_same, fl_kind_of, ?_⟩
    repeat walk_at "sx"
    have F : Fin K (updM M1 fi (.ins (He.ga K "Finder") dxf (finO fo (i : Nat) 0))) fi fo kd dxf (i : Nat) 0 nk mm := ⟨updM_same, ⟨dx, _, by rw [updM_ne m1.symm]; exact h1, fo_kinds⟩, by rw [updM_ne m2.symm]; exact h2, m1, n1, m2⟩
    have e0 : 0 + i = i := Nat.zero_add i
    refine .mk ⟨e, fi, fo, kd, dxf, (i : Nat), 0, nk, mm, g0, 0, _, .whole, rfl, ⟨w2, F, w4, scK0, by omega, by omega⟩, fun M2 mm2 A2 K2 => ?_⟩
    repeat walk_at "sx"
    refine .mk ⟨_, _, nk + sz e, mm2, rfl, ?_, A2.kd_, by omega, ?_, ?_⟩
    · rw [A2.fr fo m1.symm n1.symm, updM_ne m1.symm]
      exact h1
    · intro j e' hj he'
      by_cases hji : j = i
      · subst hji
        rw [he] at he'
        cases he'
        exact K2.at_ (by omega)
      · exact (h4 j e' (by omega) he').frame e' fun j' _ _ => A2.kr j j' (by omega)
    · intro a t ha h
      have u1 := h5 a t ha h
      rw [A2.fr a (neM u1 hfi) (neM h hkd2), updM_ne (neM u1 hfi)]
      exact u1
  intro G M1 hP
  obtain ⟨o1, o2, nk, mm, rfl, h1, h2, h3, h4, h5⟩ := hP.go
  repeat walk_at "sx"
  refine .is (q M1 kd mm nk h1 h2 (fun i e he => h4 i e ?_ he) h5)
  rw [Nat.zero_add, enumL_len, List.length_map]
  exact (List.getElem?_eq_some_iff.mp he).1
theorem m_Found___init__ {P : Program} {w : World} {K : PySem.W.Frag} {mg : Str → Option Value} {base : Heap} (E : Fx w K mg) : Mak P w K mg base "Found" (He.ga K "Found") 41 (T_Found___init__ K) := by
  obtain ⟨hm, fd, F⟩ := E.m_Found___init__
  refine ⟨⟨_, fd, ["self", "program"], def_okF (N := ["self", "program", "number", "row", "word", "f", "names", "params", "expression", "result", "param"]) F ⟨rfl, rfl, rfl, by decide +kernel, rfl, by decide +kernel, by decide +kernel⟩ (fun ys M k h => ?_) (fun X C A ys M k h => w_Found___init__ E C A h), E.c_Found.2.1, F.bindsN fun _ _ _ _ _ _ us hl => match us, hl with | [_, _], _ => rfl⟩, E.c_Found.1, by decide⟩
  replace h := Stop.go h
  first | (obtain ⟨h, _⟩ := h; rw [h]; rfl) | (obtain ⟨_, h, _⟩ := h; rw [h]; rfl) | (obtain ⟨_, _, h, _⟩ := h; rw [h]; rfl) | (obtain ⟨_, _, _, h, _⟩ := h; rw [h]; rfl) | (obtain ⟨_, _, _, _, h, _⟩ := h; rw [h]; rfl) | (obtain ⟨_, _, _, _, _, h, _⟩ := h; rw [h]; rfl) | (obtain ⟨_, _, _, _, _, _, h, _⟩ := h; rw [h]; rfl) | (obtain ⟨_, _, _, _, _, _, _, h, _⟩ := h; rw [h]; rfl) | (obtain ⟨_, _, _, _, _, _, _, _, h, _⟩ := h; rw [h]; rfl) | (obtain ⟨_, _, _, _, _, _, _, _, _, h, _⟩ := h; rw [h]; rfl) | (obtain ⟨_, _, _, _, _, _, _, _, _, _, h, _⟩ := h; rw [h]; rfl) | (obtain ⟨_, _, _, _, _, _, _, _, _, _, _, h, _⟩ := h; rw [h]; rfl) | (obtain ⟨_, _, _, _, _, _, _, _, _, _, _, _, h, _⟩ := h; rw [h]; rfl)
def T_PlainRun___init__ (K : PySem.W.Frag) : Tr := fun ys M k => Stop (∃ (ro fo dx dx2 kd : Addr) (es : List Ex) (nk : Nat) (mm : List Key → Option PyData), ys = [.v (.ref ro), .v (.ref fo)] ∧ (M ro = some (.ins (He.ga K "PlainRun") dx []) ∧ M fo = some (.ins (He.ga K "Found") dx2 (foO es kd)) ∧ M kd = some (.dT nk mm) ∧ (∀ (i : Nat) (e : Ex), es[i]? = some e → Kn mm i 1 e) ∧ es.length ≤ 12 ∧ ∀ e ∈ es, ht e ≤ 7) ∧ ∀ M' as_, M' ro = some (.ins (He.ga K "PlainRun") dx (runO fo as_)) → M' as_ = some (.lst ((es.map code).map Sy.d)) → (∀ a t, a ≠ ro → M a = some t → M' a = some t) → k (.d .none) M')
theorem w_PlainRun___init__ {P : Program} {w : World} {K : PySem.W.Frag} {mg : Str → Option Value} {base : Heap} (E : Fx w K mg) {X : Cx} (C : Cxi X P w K mg base 40) (A : At X ["self", "found", "number", "row", "code", "param"] (defScope (inClass (top 104) 0)) true) {ys : List Sy} {M : Mem} {k : Sy → Mem → Prop} (hT : T_PlainRun___init__ K ys M k) :
    ExK X (startG ["self", "found", "number", "row", "code", "param"] ys) M (defBody (inClass (top 104) 0)) { nx := fun _ M' => Fz k (.d .none) M', rt := Fz k } := by
  have s0 : Slot X 0 "self" := A.slot (by decide +kernel)
  have s1 : Slot X 1 "found" := A.slot (by decide +kernel)
  have s2 : Slot X 2 "number" := A.slot (by decide +kernel)
  have s3 : Slot X 3 "row" := A.slot (by decide +kernel)
  have s4 : Slot X 4 "code" := A.slot (by decide +kernel)
  have b_enumerate := E.b_enumerate
  obtain ⟨ro, fo, dx, dx2, kd, es, nk, mm, rfl, ⟨hro, hfo, hkd, hK, hl, hht⟩, q⟩ := hT.go
  have gr := gvl_cls (K := K) E.c_Run.1
  have mi := m_Run___init__ (P := P) (base := base) E
  have mr := m_Found_rows (P := P) (base := base) E
  have dc := d_coded (P := P) (base := base) E 7
  have nf : fo ≠ ro := neM2 hfo hro (fun z => by injection z with _ _ z; injection z)
  have nk1 : kd ≠ ro := neM2 hkd hro (fun z => by cases z)
  refine ex_open (by rfl) ?_
  repeat walk_at "sx"
  refine .mk ⟨ro, dx, rfl, hro, ?_⟩
  repeat walk_at "sx"
  refine .mk ⟨_, _, _, _, rfl, updM_same, E.c_PlainRun.2.2, E.n_PlainRun_found, (Nat.le_of_ble_eq_true rfl), ?_⟩
  refine ex_M (congrArg (fun z => updM _ _ (.ins _ _ z)) (show _ = ([("steps", .d (.int 0)), ("found", .v (.ref fo))] : List (Str × Sy)) by with_unfolding_all rfl)) ?_
  try simp only [updM_updM]
  repeat walk_at "sx"
  refine .mk ⟨_, _, _, _, rfl, updM_same, E.c_PlainRun.2.2, E.n_PlainRun_defs, (Nat.le_of_ble_eq_true rfl), ?_⟩
  refine ex_M (congrArg (fun z => updM _ _ (.ins _ _ z)) (show _ = ([("steps", .d (.int 0)), ("found", .v (.ref fo)), ("defs", .dk 0 fun _ => none)] : List (Str × Sy)) by with_unfolding_all rfl)) ?_
  try simp only [updM_updM]
  refine ex_fldS C (ev_lstM (ea_nil ⟨Nat.zero_le _, ?_⟩)) (by rfl)
  intro as_ has
  have na : as_ ≠ ro := fun z => by rw [z, updM_same] at has; cases has
  have has2 : M as_ = none := by rw [updM_ne na] at has; exact has
  repeat walk_at "sx"
  refine .mk ⟨_, _, _, _, rfl, (by rw [updM_ne na.symm]; exact updM_same), E.c_PlainRun.2.2, E.n_PlainRun_asks, (Nat.le_of_ble_eq_true rfl), ?_⟩
  refine ex_M (congrArg (fun z => updM _ _ (.ins _ _ z)) (show _ = (runO fo as_ : List (Str × Sy)) by with_unfolding_all rfl)) ?_
  repeat walk_at "sx"
  refine ex_for C (bnd_tup C.nd C.calm (.cons s2 (.cons s3 .nil))) (pk_enum C (A.gl (by decide +kernel)) b_enumerate ?_) (by intro _; rfl)
  have hro2 : ∀ a t, a ≠ ro → M a = some t → updM (updM (updM M ro (.ins (He.ga K "PlainRun") dx [("steps", .d (.int 0)), ("found", .v (.ref fo)), ("defs", .dk 0 fun _ => none)])) as_ (.lst [])) ro (.ins (He.ga K "PlainRun") dx (runO fo as_)) a = some t := fun a t ha h => by
    rw [updM_ne ha, updM_ne (neM h has2), updM_ne ha]
    exact h
  repeat walk_at "sx"
  refine .mk ⟨_, _, _, rfl, hro2 fo _ nf hfo, fo_rows, ?_⟩
  refine .mk ⟨_, _, _, es, rfl, hro2 fo _ nf hfo, ?_⟩
  repeat walk_at "sx"
  refine ⟨enumL_ok, forL_inv (fun i G M' => Stop (∃ o1 o2 o3, G = [some (.v (.ref ro)), some (.v (.ref fo)), o1, o2, o3, none] ∧ M' ro = some (.ins (He.ga K "PlainRun") dx (runO fo as_)) ∧ M' as_ = some (.lst (((es.take i).map code).map Sy.d)) ∧ ∀ a t, a ≠ ro → M a = some t → M' a = some t)) 0 (.mk ⟨none, none, none, rfl, updM_same, ?_, hro2⟩) ?_ ?_⟩
  · rw [updM_ne na, updM_same]
    rfl
  · intro i y G M1 hy hP
    obtain ⟨o1, o2, o3, rfl, h1, h2, h5⟩ := hP.go
    obtain ⟨d, hd, rfl⟩ := enumL_get hy
    obtain ⟨e, he, rfl⟩ := row_get hd
    have hi : i < es.length := (List.getElem?_eq_some_iff.mp he).1
    have hh := hht e (List.mem_of_getElem? he)
    rw [Nat.zero_add] at h2 ⊢
    have hF : FoundAt K M1 fo mm := ⟨kd, dx2, _, nk, h5 fo _ nf hfo, fo_kinds, fo_kind_at, h5 kd _ nk1 hkd⟩
    have hKe := hK i e he
    have hll : (((es.take i).map code).map Sy.d).length ≤ 100000 := by
      rw [List.length_map, List.length_map, List.length_take]
      omega
    repeat walk_at "sx"
    refine ⟨⟨hh, mm, hF, hKe⟩, ?_⟩
    repeat walk_at "sx"
    refine .mk ⟨_, _, _, _, _, rfl, h1, E.c_PlainRun.2.2, E.n_PlainRun_asks, ro_asks, ?_⟩
    repeat walk_at "sx"
    refine .mk ⟨_, _, _, rfl, ?_, ?_, ?_⟩
    · rw [updM_ne na.symm]; exact h1
    · rw [updM_same, List.take_add_one, he]
      simp
    · intro a t ha h
      rw [updM_ne (neM h has2)]
      exact h5 a t ha h
  intro G M1 hP
  obtain ⟨o1, o2, o3, rfl, h1, h2, h5⟩ := hP.go
  repeat walk_at "sx"
  refine .is (q M1 as_ h1 ?_ h5)
  rw [h2, Nat.zero_add, enumL_len, List.length_map, List.take_length]
theorem m_PlainRun___init__ {P : Program} {w : World} {K : PySem.W.Frag} {mg : Str → Option Value} {base : Heap} (E : Fx w K mg) : Mak P w K mg base "PlainRun" (He.ga K "PlainRun") 41 (T_PlainRun___init__ K) := by
  obtain ⟨hm, fd, F⟩ := E.m_PlainRun___init__
  refine ⟨⟨_, fd, ["self", "found"], def_okF (N := ["self", "found", "number", "row", "code", "param"]) F ⟨rfl, rfl, rfl, by decide +kernel, rfl, by decide +kernel, by decide +kernel⟩ (fun ys M k h => ?_) (fun X C A ys M k h => w_PlainRun___init__ E C A h), E.c_PlainRun.2.1, F.bindsN fun _ _ _ _ _ _ us hl => match us, hl with | [_, _], _ => rfl⟩, E.c_PlainRun.1, by decide⟩
  replace h := Stop.go h
  first | (obtain ⟨h, _⟩ := h; rw [h]; rfl) | (obtain ⟨_, h, _⟩ := h; rw [h]; rfl) | (obtain ⟨_, _, h, _⟩ := h; rw [h]; rfl) | (obtain ⟨_, _, _, h, _⟩ := h; rw [h]; rfl) | (obtain ⟨_, _, _, _, h, _⟩ := h; rw [h]; rfl) | (obtain ⟨_, _, _, _, _, h, _⟩ := h; rw [h]; rfl) | (obtain ⟨_, _, _, _, _, _, h, _⟩ := h; rw [h]; rfl) | (obtain ⟨_, _, _, _, _, _, _, h, _⟩ := h; rw [h]; rfl) | (obtain ⟨_, _, _, _, _, _, _, _, h, _⟩ := h; rw [h]; rfl) | (obtain ⟨_, _, _, _, _, _, _, _, _, h, _⟩ := h; rw [h]; rfl) | (obtain ⟨_, _, _, _, _, _, _, _, _, _, h, _⟩ := h; rw [h]; rfl) | (obtain ⟨_, _, _, _, _, _, _, _, _, _, _, h, _⟩ := h; rw [h]; rfl) | (obtain ⟨_, _, _, _, _, _, _, _, _, _, _, _, h, _⟩ := h; rw [h]; rfl)
def T_PlainRun_asked (K : PySem.W.Frag) : Tr := fun ys M k => Stop (∃ (ro fo as_ dx : Addr) (es : List Ex) (i : Nat) (e : Ex), ys = [.v (.ref ro), .d (.int i)] ∧ (M ro = some (.ins (He.ga K "PlainRun") dx (runO fo as_)) ∧ M as_ = some (.lst ((es.map code).map Sy.d)) ∧ es[i]? = some e ∧ askOk e) ∧ k (.d (.tuple [.int (vl e r0), .int 0])) M)
theorem w_PlainRun_asked {P : Program} {w : World} {K : PySem.W.Frag} {mg : Str → Option Value} {base : Heap} (E : Fx w K mg) {X : Cx} (C : Cxi X P w K mg base 40) (A : At X ["self", "k", "value"] (defScope (inClass (top 104) 2)) true) {ys : List Sy} {M : Mem} {k : Sy → Mem → Prop} (hT : T_PlainRun_asked K ys M k) :
    ExK X (startG ["self", "k", "value"] ys) M (defBody (inClass (top 104) 2)) { nx := fun _ M' => Fz k (.d .none) M', rt := Fz k } := by
  have s0 : Slot X 0 "self" := A.slot (by decide +kernel)
  have s1 : Slot X 1 "k" := A.slot (by decide +kernel)
  have s2 : Slot X 2 "value" := A.slot (by decide +kernel)
  have d_is_whole := d_is_whole (P := P) (w := w) (K := K) (mg := mg) (base := base) E
  have b_len := E.bf_len
  obtain ⟨ro, fo, as_, dx, es, i, e, rfl, ⟨hro, has, he, ⟨⟨w1, w2, w3⟩, w4⟩⟩, q⟩ := hT.go
  have hi : i < es.length := (List.getElem?_eq_some_iff.mp he).1
  have hl : ((es.map code).map Sy.d).length = es.length := by rw [List.length_map, List.length_map]
  have he2 : ((es.map code).map Sy.d)[i]? = some (Sy.d (code e)) := by rw [List.getElem?_map, List.getElem?_map, he]; rfl
  have mb := m_PlainRun_begin (P := P) (base := base) E
  have mc := m_PlainRun_come (P := P) (base := base) E 7
  refine ex_open (by rfl) ?_
  repeat walk_at "sx"
  refine .mk ⟨_, _, _, _, _, rfl, hro, E.c_PlainRun.2.2, E.n_PlainRun_asks, ro_asks, ?_⟩
  repeat walk_at "sx"
  refine ifF (by rw [hl, decide_eq_true (by omega)]; rfl) ?_
  repeat walk_at "sx"
  refine .mk ⟨_, _, _, rfl, hro, ro_begin, ?_⟩
  refine .mk ⟨ro, dx, fo, as_, rfl, hro, ?_⟩
  repeat walk_at "sx"
  refine .mk ⟨_, _, _, rfl, hro, ro_come, ?_⟩
  repeat walk_at "sx"
  refine .mk ⟨_, _, _, _, _, rfl, hro, E.c_PlainRun.2.2, E.n_PlainRun_asks, ro_asks, ?_⟩
  repeat walk_at "sx"
  refine it_memI (i := i) rfl has he2 ?_
  repeat walk_at "sx"
  refine .mk ⟨e, ro, g0, r0, 0, _, _, .whole, rfl, ⟨w2, ⟨dx, _, hro, ro_come, ro_weighed⟩, w4, scV0, by omega⟩, ?_⟩
  repeat walk_at "sx"
  refine .mk ⟨_, _, _, _, _, rfl, hro, E.c_PlainRun.2.2, E.n_PlainRun_steps, ro_steps, ?_⟩
  repeat walk_at "sx"
theorem m_PlainRun_asked {P : Program} {w : World} {K : PySem.W.Frag} {mg : Str → Option Value} {base : Heap} (E : Fx w K mg) : Mfn P w K mg base (He.ga K "PlainRun") "asked" 41 (T_PlainRun_asked K) := by
  obtain ⟨hm, fd, F⟩ := E.m_PlainRun_asked
  refine ⟨⟨_, fd, ["self", "k"], def_okF (N := ["self", "k", "value"]) F ⟨rfl, rfl, rfl, by decide +kernel, rfl, by decide +kernel, by decide +kernel⟩ (fun ys M k h => ?_) (fun X C A ys M k h => w_PlainRun_asked E C A h), hm, F.bindsN fun _ _ _ _ _ _ us hl => match us, hl with | [_, _], _ => rfl⟩, E.c_PlainRun.2.2⟩
  replace h := Stop.go h
  first | (obtain ⟨h, _⟩ := h; rw [h]; rfl) | (obtain ⟨_, h, _⟩ := h; rw [h]; rfl) | (obtain ⟨_, _, h, _⟩ := h; rw [h]; rfl) | (obtain ⟨_, _, _, h, _⟩ := h; rw [h]; rfl) | (obtain ⟨_, _, _, _, h, _⟩ := h; rw [h]; rfl) | (obtain ⟨_, _, _, _, _, h, _⟩ := h; rw [h]; rfl) | (obtain ⟨_, _, _, _, _, _, h, _⟩ := h; rw [h]; rfl) | (obtain ⟨_, _, _, _, _, _, _, h, _⟩ := h; rw [h]; rfl) | (obtain ⟨_, _, _, _, _, _, _, _, h, _⟩ := h; rw [h]; rfl) | (obtain ⟨_, _, _, _, _, _, _, _, _, h, _⟩ := h; rw [h]; rfl) | (obtain ⟨_, _, _, _, _, _, _, _, _, _, h, _⟩ := h; rw [h]; rfl) | (obtain ⟨_, _, _, _, _, _, _, _, _, _, _, h, _⟩ := h; rw [h]; rfl) | (obtain ⟨_, _, _, _, _, _, _, _, _, _, _, _, h, _⟩ := h; rw [h]; rfl)
local macro_rules | `(tactic| walk_at "sxOp") => `(tactic| first
  | with_reducible refine ok_eqM0 (by assumption) (by assumption) ?_
  | with_reducible refine ok_fdiv (cdiv_of (by decide) (by decide +kernel)) ?_
  | with_reducible refine ok_powK (v := 1000000000000) (cpow_of (by decide) (by decide) (by decide)) (by decide +kernel) ?_
  | with_reducible refine ok_powK (v := 100000000000000) (cpow_of (by decide) (by decide) (by decide)) (by decide +kernel) ?_
  | with_reducible refine ok_powK (v := 1000000000000000000000000000000) (cpow_of (by decide) (by decide) (by decide)) (by decide +kernel) ?_)
local macro_rules | `(tactic| walk_at "sxIt") => `(tactic| first
  | with_reducible refine it_slI (i := 0) (by with_unfolding_all rfl) (by with_unfolding_all rfl) ?_
  | with_reducible refine it_slI (i := 1) (by with_unfolding_all rfl) (by with_unfolding_all rfl) ?_)
def T__law_next : Tr := fun ys M k => Stop (∃ (f : Addr) (ns : List Int), ys = [.v (.ref f)] ∧ Dr M f ns ∧ ∀ v ns', 0 ≤ v → nneg ns' → ns'.length ≤ 100 → k (.d (.int v)) (updM M f (.lst (intL ns'))))
theorem w__law_next {P : Program} {w : World} {K : PySem.W.Frag} {mg : Str → Option Value} {base : Heap} (E : Fx w K mg) {X : Cx} (C : Cxi X P w K mg base 0) (A : At X ["_law_draws_here"] (defScope (top 145)) true) {ys : List Sy} {M : Mem} {k : Sy → Mem → Prop} (hT : T__law_next ys M k) :
    ExK X (startG ["_law_draws_here"] ys) M (defBody (top 145)) { nx := fun _ M' => Fz k (.d .none) M', rt := Fz k } := by
  have s0 : Slot X 0 "_law_draws_here" := A.slot (by decide +kernel)
  obtain ⟨f, ns, rfl, ⟨hm, hn, hl⟩, q⟩ := hT.go
  rcases List.eq_nil_or_concat ns with rfl | ⟨ns', v, rfl⟩
  · refine ex_open (by rfl) ?_
    repeat walk_at "sx"
    have q2 := q 0 [] (by omega) hn hl
    rw [updM_self hm] at q2
    exact .is q2
  · rw [List.concat_eq_append] at hm hn hl
    have he : (ns' ++ [v]).isEmpty = false := by simp
    have hl2 : ns'.length ≤ 100 := by rw [List.length_append] at hl; omega
    refine ex_open (by rfl) ?_
    repeat walk_at "sx"
    refine ⟨intL ns', .d (.int v), by rw [hm, intL_app], ?_⟩
    repeat walk_at "sx"
    exact .is (q v ns' (hn v (by simp)) (fun n h => hn n (by simp [h])) hl2)
theorem a__law_next {P : Program} {w : World} {K : PySem.W.Frag} {mg : Str → Option Value} {base : Heap} (E : Fx w K mg) : Fat P w K mg base (He.ga K "_law_next") 1 T__law_next := by
  obtain ⟨hm, fd, F⟩ := E.f__law_next
  refine ⟨⟨fd, ["_law_draws_here"], def_okF (N := ["_law_draws_here"]) F ⟨rfl, rfl, rfl, by decide +kernel, rfl, by decide +kernel, by decide +kernel⟩ (fun ys M k h => ?_) (fun X C A ys M k h => w__law_next E C A h), F.kp, F.bindsN fun _ _ _ _ _ _ us hl => match us, hl with | [_], _ => rfl⟩⟩
  replace h := Stop.go h
  first | (obtain ⟨_, h, _⟩ := h; rw [h]; rfl) | (obtain ⟨_, _, h, _⟩ := h; rw [h]; rfl) | (obtain ⟨_, _, _, h, _⟩ := h; rw [h]; rfl) | (obtain ⟨_, _, _, _, h, _⟩ := h; rw [h]; rfl) | (obtain ⟨_, _, _, _, _, h, _⟩ := h; rw [h]; rfl) | (obtain ⟨_, _, _, _, _, _, h, _⟩ := h; rw [h]; rfl) | (obtain ⟨_, _, _, _, _, _, _, h, _⟩ := h; rw [h]; rfl) | (obtain ⟨_, _, _, _, _, _, _, _, h, _⟩ := h; rw [h]; rfl)
theorem d__law_next {P : Program} {w : World} {K : PySem.W.Frag} {mg : Str → Option Value} {base : Heap} (E : Fx w K mg) : Dfn P w K mg base "_law_next" 1 T__law_next := by
  obtain ⟨fd, ps, F, hk, hb⟩ := (a__law_next (P := P) (base := base) E).ex
  exact ⟨⟨_, fd, ps, F, E.f__law_next.1, hk, hb⟩, by decide⟩
def T__law_place : Tr := fun ys M k => Stop (∃ (f : Addr) (ns : List Int), ys = [.v (.ref f)] ∧ Dr M f ns ∧ ∀ i e at_ below ns', PlaceOk i e at_ below → nneg ns' → ns'.length ≤ 100 → k (.d (.tuple [enc e, .int at_, .int below])) (updM M f (.lst (intL ns'))))
theorem w__law_place {P : Program} {w : World} {K : PySem.W.Frag} {mg : Str → Option Value} {base : Heap} (E : Fx w K mg) {X : Cx} (C : Cxi X P w K mg base 1) (A : At X ["_law_draws_here", "_law_cell", "_law_below", "_law_at", "_law_told", "_law_k", "_law_way", "_law_more"] (defScope (top 146)) true) {ys : List Sy} {M : Mem} {k : Sy → Mem → Prop} (hT : T__law_place ys M k) :
    ExK X (startG ["_law_draws_here", "_law_cell", "_law_below", "_law_at", "_law_told", "_law_k", "_law_way", "_law_more"] ys) M (defBody (top 146)) { nx := fun _ M' => Fz k (.d .none) M', rt := Fz k } := by
  have s0 : Slot X 0 "_law_draws_here" := A.slot (by decide +kernel)
  have s1 : Slot X 1 "_law_cell" := A.slot (by decide +kernel)
  have s2 : Slot X 2 "_law_below" := A.slot (by decide +kernel)
  have s3 : Slot X 3 "_law_at" := A.slot (by decide +kernel)
  have s4 : Slot X 4 "_law_told" := A.slot (by decide +kernel)
  have s5 : Slot X 5 "_law_k" := A.slot (by decide +kernel)
  have s6 : Slot X 6 "_law_way" := A.slot (by decide +kernel)
  have s7 : Slot X 7 "_law_more" := A.slot (by decide +kernel)
  have d__law_next := d__law_next (P := P) (w := w) (K := K) (mg := mg) (base := base) E
  have b_range := E.b_range
  obtain ⟨f, ns, rfl, hD, q⟩ := hT.go
  refine ex_open (by rfl) ?_
  repeat walk_at "sx"
  refine .mk ⟨f, ns, rfl, hD, fun c ns1 hc hn1 hl1 => ?_⟩
  have hb : 0 < 1 + c % 30 := by omega
  repeat walk_at "sx"
  refine ex_for C (bnd_name C.nd s5) (pk_range1 C (A.gl (by decide +kernel)) b_range ?_) (by intro _; rfl)
  repeat walk_at "sx"
  refine ⟨fun _ _ => True.intro, forL_inv (fun i G M' => Stop (∃ e at_ below o1 o2 o3, PlaceOk i e at_ below ∧ G = [some (.v (.ref f)), some (.d (.int c)), some (.d (.int below)), some (.d (.int at_)), some (.d (enc e)), o1, o2, o3] ∧ M' = updM M f (.lst (intL ns1)))) 0 (.mk ⟨.pl (c / 30 % (1 + c % 30)) (1 + c % 30), _, _, none, none, none, place_0 (Int.emod_nonneg _ (by omega)) (Int.emod_lt_of_pos _ hb) (by omega), rfl, rfl⟩) ?_ ?_⟩
  · intro i y G M1 hy hP
    obtain ⟨e, at_, below, o1, o2, o3, hPl, rfl, rfl⟩ := hP.go
    obtain ⟨hi, hy2⟩ := rngL_get hy
    have hi2 : i = 0 ∨ i = 1 := by omega
    rcases hi2 with rfl | rfl
    · have ey : y = .d (.int 0) := hy2
      subst ey
      repeat walk_at "sx"
      by_cases h0 : c / 2700 % 3 = 0
      · refine ifT (decide_eq_true h0) ?_
        repeat walk_at "sx"
        exact .mk ⟨_, _, _, _, _, _, place_up hPl (by omega) (Int.emod_nonneg _ (by decide)) (Int.emod_lt_of_pos _ (by decide)), rfl, rfl⟩
      · refine ifF (decide_eq_false h0) ?_
        repeat walk_at "sx"
        by_cases h1 : c / 2700 % 3 = 1
        · refine ifT (decide_eq_true h1) ?_
          repeat walk_at "sx"
          exact .mk ⟨_, _, _, _, _, _, place_wi hPl (by omega) (Int.emod_nonneg _ (by decide)) (Int.emod_lt_of_pos _ (by decide)), rfl, rfl⟩
        · refine ifF (decide_eq_false h1) ?_
          repeat walk_at "sx"
          exact .mk ⟨_, _, _, _, _, _, place_mi hPl (by omega), rfl, rfl⟩
    · have ey : y = .d (.int 1) := hy2
      subst ey
      repeat walk_at "sx"
      by_cases h0 : c / 8100 % 3 = 0
      · refine ifT (decide_eq_true h0) ?_
        repeat walk_at "sx"
        exact .mk ⟨_, _, _, _, _, _, place_up hPl (by omega) (Int.emod_nonneg _ (by decide)) (Int.emod_lt_of_pos _ (by decide)), rfl, rfl⟩
      · refine ifF (decide_eq_false h0) ?_
        repeat walk_at "sx"
        by_cases h1 : c / 8100 % 3 = 1
        · refine ifT (decide_eq_true h1) ?_
          repeat walk_at "sx"
          exact .mk ⟨_, _, _, _, _, _, place_wi hPl (by omega) (Int.emod_nonneg _ (by decide)) (Int.emod_lt_of_pos _ (by decide)), rfl, rfl⟩
        · refine ifF (decide_eq_false h1) ?_
          repeat walk_at "sx"
          exact .mk ⟨_, _, _, _, _, _, place_mi hPl (by omega), rfl, rfl⟩
  intro G M1 hP
  obtain ⟨e, at_, below, o1, o2, o3, hPl, rfl, rfl⟩ := hP.go
  repeat walk_at "sx"
  exact .is (q _ e at_ below ns1 hPl hn1 hl1)
theorem a__law_place {P : Program} {w : World} {K : PySem.W.Frag} {mg : Str → Option Value} {base : Heap} (E : Fx w K mg) : Fat P w K mg base (He.ga K "_law_place") 2 T__law_place := by
  obtain ⟨hm, fd, F⟩ := E.f__law_place
  refine ⟨⟨fd, ["_law_draws_here"], def_okF (N := ["_law_draws_here", "_law_cell", "_law_below", "_law_at", "_law_told", "_law_k", "_law_way", "_law_more"]) F ⟨rfl, rfl, rfl, by decide +kernel, rfl, by decide +kernel, by decide +kernel⟩ (fun ys M k h => ?_) (fun X C A ys M k h => w__law_place E C A h), F.kp, F.bindsN fun _ _ _ _ _ _ us hl => match us, hl with | [_], _ => rfl⟩⟩
  replace h := Stop.go h
  first | (obtain ⟨_, h, _⟩ := h; rw [h]; rfl) | (obtain ⟨_, _, h, _⟩ := h; rw [h]; rfl) | (obtain ⟨_, _, _, h, _⟩ := h; rw [h]; rfl) | (obtain ⟨_, _, _, _, h, _⟩ := h; rw [h]; rfl) | (obtain ⟨_, _, _, _, _, h, _⟩ := h; rw [h]; rfl) | (obtain ⟨_, _, _, _, _, _, h, _⟩ := h; rw [h]; rfl) | (obtain ⟨_, _, _, _, _, _, _, h, _⟩ := h; rw [h]; rfl) | (obtain ⟨_, _, _, _, _, _, _, _, h, _⟩ := h; rw [h]; rfl)
theorem d__law_place {P : Program} {w : World} {K : PySem.W.Frag} {mg : Str → Option Value} {base : Heap} (E : Fx w K mg) : Dfn P w K mg base "_law_place" 2 T__law_place := by
  obtain ⟨fd, ps, F, hk, hb⟩ := (a__law_place (P := P) (base := base) E).ex
  exact ⟨⟨_, fd, ps, F, E.f__law_place.1, hk, hb⟩, by decide⟩
section
local macro_rules | `(tactic| walk_at "sxEv") => `(tactic| first
  | ((with_reducible refine ev_disp3 (by assumption) (by decide) (by decide) (by decide) ?_ ?_); rotate_left; exact fun _ _ => rfl))
def T__law_reckoned : Tr := fun ys M k => Stop (∃ (w1 : Str) (a b : Int), ys = [.d (.str w1), .d (.int a), .d (.int b)] ∧ (wordOk w1 ∧ mulOk a) ∧ k (.d (.int (rkv w1 a b))) M)
theorem w__law_reckoned {P : Program} {w : World} {K : PySem.W.Frag} {mg : Str → Option Value} {base : Heap} (E : Fx w K mg) {X : Cx} (C : Cxi X P w K mg base 0) (A : At X ["_law_word", "_law_one", "_law_other"] (defScope (top 147)) true) {ys : List Sy} {M : Mem} {k : Sy → Mem → Prop} (hT : T__law_reckoned ys M k) :
    ExK X (startG ["_law_word", "_law_one", "_law_other"] ys) M (defBody (top 147)) { nx := fun _ M' => Fz k (.d .none) M', rt := Fz k } := by
  have s0 : Slot X 0 "_law_word" := A.slot (by decide +kernel)
  have s1 : Slot X 1 "_law_one" := A.slot (by decide +kernel)
  have s2 : Slot X 2 "_law_other" := A.slot (by decide +kernel)
  have b_int := E.bt_int
  obtain ⟨w1, a, b, rfl, ⟨hw, hb⟩, q⟩ := hT.go
  have hc : CMul a b := .inl hb
  rcases hw with rfl | rfl | rfl | rfl | rfl
  · rw [rkv_plus] at q
    refine ex_open (by rfl) ?_
    repeat walk_at "sx"
    intro a1 ha1
    repeat walk_at "sx"
    refine ⟨_, _, _, rfl, rfl, rfl, ?_⟩
    repeat walk_at "sx"
    refine Or.inl ⟨rfl, ?_⟩
    repeat walk_at "sx"
    try exact .drop ha1 (.is q)
  · rw [rkv_minus] at q
    refine ex_open (by rfl) ?_
    repeat walk_at "sx"
    intro a1 ha1
    repeat walk_at "sx"
    refine ⟨_, _, _, rfl, rfl, rfl, ?_⟩
    repeat walk_at "sx"
    refine Or.inr (Or.inl ⟨rfl, ?_⟩)
    repeat walk_at "sx"
    try exact .drop ha1 (.is q)
  · rw [rkv_times] at q
    refine ex_open (by rfl) ?_
    repeat walk_at "sx"
    intro a1 ha1
    repeat walk_at "sx"
    refine ⟨_, _, _, rfl, rfl, rfl, ?_⟩
    repeat walk_at "sx"
    refine Or.inr (Or.inr ⟨rfl, ?_⟩)
    repeat walk_at "sx"
    try exact .drop ha1 (.is q)
  · rw [rkv_less] at q
    refine ex_open (by rfl) ?_
    repeat walk_at "sx"
  · rw [rkv_same] at q
    refine ex_open (by rfl) ?_
    repeat walk_at "sx"
theorem a__law_reckoned {P : Program} {w : World} {K : PySem.W.Frag} {mg : Str → Option Value} {base : Heap} (E : Fx w K mg) : Fat P w K mg base (He.ga K "_law_reckoned") 1 T__law_reckoned := by
  obtain ⟨hm, fd, F⟩ := E.f__law_reckoned
  refine ⟨⟨fd, ["_law_word", "_law_one", "_law_other"], def_okF (N := ["_law_word", "_law_one", "_law_other"]) F ⟨rfl, rfl, rfl, by decide +kernel, rfl, by decide +kernel, by decide +kernel⟩ (fun ys M k h => ?_) (fun X C A ys M k h => w__law_reckoned E C A h), F.kp, F.bindsN fun _ _ _ _ _ _ us hl => match us, hl with | [_, _, _], _ => rfl⟩⟩
  replace h := Stop.go h
  first | (obtain ⟨_, h, _⟩ := h; rw [h]; rfl) | (obtain ⟨_, _, h, _⟩ := h; rw [h]; rfl) | (obtain ⟨_, _, _, h, _⟩ := h; rw [h]; rfl) | (obtain ⟨_, _, _, _, h, _⟩ := h; rw [h]; rfl) | (obtain ⟨_, _, _, _, _, h, _⟩ := h; rw [h]; rfl) | (obtain ⟨_, _, _, _, _, _, h, _⟩ := h; rw [h]; rfl) | (obtain ⟨_, _, _, _, _, _, _, h, _⟩ := h; rw [h]; rfl) | (obtain ⟨_, _, _, _, _, _, _, _, h, _⟩ := h; rw [h]; rfl)
theorem d__law_reckoned {P : Program} {w : World} {K : PySem.W.Frag} {mg : Str → Option Value} {base : Heap} (E : Fx w K mg) : Dfn P w K mg base "_law_reckoned" 1 T__law_reckoned := by
  obtain ⟨fd, ps, F, hk, hb⟩ := (a__law_reckoned (P := P) (base := base) E).ex
  exact ⟨⟨_, fd, ps, F, E.f__law_reckoned.1, hk, hb⟩, by decide⟩
end
def T__law_side_deed : Tr := fun ys M k => Stop (∃ (way : Int) (f : Addr) (ns : List Int) (now : Int), ys = [.d (.int way), .v (.ref f), .d (.int now)] ∧ (Dr M f ns ∧ 0 ≤ now ∧ now < L12) ∧ ∀ e due ns' M', DeedOk now e due → nneg ns' → ns'.length ≤ 100 → M' f = some (.lst (intL ns')) → Kept M M' f → k (.d (.tuple [enc e, .int due])) M')
theorem w__law_side_deed {P : Program} {w : World} {K : PySem.W.Frag} {mg : Str → Option Value} {base : Heap} (E : Fx w K mg) {X : Cx} (C : Cxi X P w K mg base 2) (A : At X ["_law_way", "_law_draws_here", "_law_now", "_law_e", "_law_x", "_law_told", "_law_at", "_law_below", "_law_cell", "_law_cut", "_law_body", "_law_due", "_law_near", "_law_asked", "_law_other"] (defScope (top 148)) true) {ys : List Sy} {M : Mem} {k : Sy → Mem → Prop} (hT : T__law_side_deed ys M k) :
    ExK X (startG ["_law_way", "_law_draws_here", "_law_now", "_law_e", "_law_x", "_law_told", "_law_at", "_law_below", "_law_cell", "_law_cut", "_law_body", "_law_due", "_law_near", "_law_asked", "_law_other"] ys) M (defBody (top 148)) { nx := fun _ M' => Fz k (.d .none) M', rt := Fz k } := by
  have s0 : Slot X 0 "_law_way" := A.slot (by decide +kernel)
  have s1 : Slot X 1 "_law_draws_here" := A.slot (by decide +kernel)
  have s2 : Slot X 2 "_law_now" := A.slot (by decide +kernel)
  have s3 : Slot X 3 "_law_e" := A.slot (by decide +kernel)
  have s4 : Slot X 4 "_law_x" := A.slot (by decide +kernel)
  have s5 : Slot X 5 "_law_told" := A.slot (by decide +kernel)
  have s6 : Slot X 6 "_law_at" := A.slot (by decide +kernel)
  have s7 : Slot X 7 "_law_below" := A.slot (by decide +kernel)
  have s8 : Slot X 8 "_law_cell" := A.slot (by decide +kernel)
  have s9 : Slot X 9 "_law_cut" := A.slot (by decide +kernel)
  have s10 : Slot X 10 "_law_body" := A.slot (by decide +kernel)
  have s11 : Slot X 11 "_law_due" := A.slot (by decide +kernel)
  have s12 : Slot X 12 "_law_near" := A.slot (by decide +kernel)
  have s13 : Slot X 13 "_law_asked" := A.slot (by decide +kernel)
  have s14 : Slot X 14 "_law_other" := A.slot (by decide +kernel)
  have d__law_place := d__law_place (P := P) (w := w) (K := K) (mg := mg) (base := base) E
  have d__law_next := d__law_next (P := P) (w := w) (K := K) (mg := mg) (base := base) E
  have d__law_reckoned := d__law_reckoned (P := P) (w := w) (K := K) (mg := mg) (base := base) E
  have b_max := E.bf_max
  have b_int := E.bt_int
  obtain ⟨way, f, ns, now, rfl, ⟨hD, hnow⟩, q⟩ := hT.go
  have hmul := mul_of_now hnow
  have hnow2 : now < 1000000000000 := hnow.2
  refine ex_open (by rfl) ?_
  repeat walk_at "sx"
  refine .mk ⟨f, ns, rfl, hD, fun i e at_ below ns1 hPl hn1 hl1 => ?_⟩
  obtain ⟨_, _, _, _, p5, p6, p7, p8⟩ := id hPl
  repeat walk_at "sx"
  refine .mk ⟨f, ns1, rfl, ⟨updM_same, hn1, hl1⟩, fun c ns2 hc hn2 hl2 => ?_⟩
  have hb : 0 < below + 1 := by omega
  have hcut0 := Int.emod_nonneg c (b := below + 1) (by omega)
  have hcut1 := Int.emod_lt_of_pos c hb
  try simp only [updM_updM]
  have hk : Kept M (updM M f (.lst (intL ns2))) f := .upd
  repeat walk_at "sx"
  by_cases h0 : way = 0
  · refine ifT (decide_eq_true h0) ?_
    repeat walk_at "sx"
    rename_i a1 ha1
    refine .mk ⟨_, now, _, rfl, ⟨w_minus, hmul⟩, ?_⟩
    repeat walk_at "sx"
    have hm1 : updM (updM M f (.lst (intL ns2))) a1 = updM (updM M f (.lst (intL ns2))) a1 := rfl
    have hfa : f ≠ a1 := neM (M := updM M f (.lst (intL ns2))) updM_same ha1
    by_cases h1 : at_ < c % (below + 1)
    · refine ifT (decide_eq_true h1) ?_
      repeat walk_at "sx"
      refine .mk ⟨_, now, _, rfl, ⟨w_plus, hmul⟩, ?_⟩
      repeat walk_at "sx"
      refine it_memI (i := 0) (by rfl) updM_same (by rfl) ?_
      repeat walk_at "sx"
      refine it_memI (i := 1) (by rfl) updM_same (by rfl) ?_
      repeat walk_at "sx"
      have hd := deed_fk (now := now) hPl hcut0 (show c % (below + 1) ≤ below by omega)
      rw [if_pos h1] at hd
      exact .is (q _ _ ns2 _ hd hn2 hl2 (by rw [updM_ne hfa]; exact updM_same) (hk.put ha1))
    · refine ifF (decide_eq_false h1) ?_
      repeat walk_at "sx"
      refine it_memI (i := 0) (by rfl) updM_same (by rfl) ?_
      repeat walk_at "sx"
      refine it_memI (i := 1) (by rfl) updM_same (by rfl) ?_
      repeat walk_at "sx"
      have hd := deed_fk (now := now) hPl hcut0 (show c % (below + 1) ≤ below by omega)
      rw [if_neg h1] at hd
      exact .is (q _ _ ns2 _ hd hn2 hl2 (by rw [updM_ne hfa]; exact updM_same) (hk.put ha1))
  · refine ifF (decide_eq_false h0) ?_
    repeat walk_at "sx"
    refine ca_max C ?_
    obtain ⟨near, hne, hn0, hn3, hnl⟩ : ∃ near, (if now - c / 100 % 12 > 0 then now - c / 100 % 12 else 0) = near ∧ 0 ≤ near ∧ near < L12 ∧ near ≤ now := by
      refine ⟨_, rfl, ?_, ?_, ?_⟩
      · split <;> omega
      · show _ < (1000000000000 : Int); split <;> omega
      · split <;> omega
    rw [hne]
    repeat walk_at "sx"
    by_cases h1 : c / 100 / 1200 % 2 = 1
    · refine ifT (decide_eq_true h1) ?_
      repeat walk_at "sx"
      refine .mk ⟨_, now, _, rfl, ⟨w_plus, hmul⟩, ?_⟩
      have hd := deed_w1 (now := now) (near := near) (cut := c % (below + 1)) (n := c / 100 / 12 % 100) ⟨hn0, hn3⟩ hnow hnl ⟨hcut0, by omega⟩ ⟨by omega, by omega⟩
      by_cases h2 : now - near < c % (below + 1)
      · rw [if_pos h2] at hd
        repeat walk_at "sx"
        rw [decide_eq_true h2]
        repeat walk_at "sx"
        exact .is (q _ _ ns2 _ hd hn2 hl2 updM_same hk)
      · rw [if_neg h2] at hd
        repeat walk_at "sx"
        rw [decide_eq_false h2]
        repeat walk_at "sx"
        exact .is (q _ _ ns2 _ hd hn2 hl2 updM_same hk)
    · refine ifF (decide_eq_false h1) ?_
      repeat walk_at "sx"
      have hd := deed_w2 (now := now) (near := near) (cut := c % (below + 1)) (n := c / 100 / 12 % 100) ⟨hn0, hn3⟩ hnow hnl ⟨hcut0, by omega⟩ ⟨by omega, by omega⟩
      by_cases h2 : now - near < c % (below + 1)
      · rw [if_pos h2] at hd
        refine ifT (decide_eq_true h2) ?_
        repeat walk_at "sx"
        refine .mk ⟨_, now, _, rfl, ⟨w_times, hmul⟩, ?_⟩
        repeat walk_at "sx"
        exact .is (q _ _ ns2 _ hd hn2 hl2 updM_same hk)
      · rw [if_neg h2] at hd
        refine ifF (decide_eq_false h2) ?_
        repeat walk_at "sx"
        exact .is (q _ _ ns2 _ hd hn2 hl2 updM_same hk)
theorem a__law_side_deed {P : Program} {w : World} {K : PySem.W.Frag} {mg : Str → Option Value} {base : Heap} (E : Fx w K mg) : Fat P w K mg base (He.ga K "_law_side_deed") 3 T__law_side_deed := by
  obtain ⟨hm, fd, F⟩ := E.f__law_side_deed
  refine ⟨⟨fd, ["_law_way", "_law_draws_here", "_law_now"], def_okF (N := ["_law_way", "_law_draws_here", "_law_now", "_law_e", "_law_x", "_law_told", "_law_at", "_law_below", "_law_cell", "_law_cut", "_law_body", "_law_due", "_law_near", "_law_asked", "_law_other"]) F ⟨rfl, rfl, rfl, by decide +kernel, rfl, by decide +kernel, by decide +kernel⟩ (fun ys M k h => ?_) (fun X C A ys M k h => w__law_side_deed E C A h), F.kp, F.bindsN fun _ _ _ _ _ _ us hl => match us, hl with | [_, _, _], _ => rfl⟩⟩
  replace h := Stop.go h
  first | (obtain ⟨_, h, _⟩ := h; rw [h]; rfl) | (obtain ⟨_, _, h, _⟩ := h; rw [h]; rfl) | (obtain ⟨_, _, _, h, _⟩ := h; rw [h]; rfl) | (obtain ⟨_, _, _, _, h, _⟩ := h; rw [h]; rfl) | (obtain ⟨_, _, _, _, _, h, _⟩ := h; rw [h]; rfl) | (obtain ⟨_, _, _, _, _, _, h, _⟩ := h; rw [h]; rfl) | (obtain ⟨_, _, _, _, _, _, _, h, _⟩ := h; rw [h]; rfl) | (obtain ⟨_, _, _, _, _, _, _, _, h, _⟩ := h; rw [h]; rfl)
theorem d__law_side_deed {P : Program} {w : World} {K : PySem.W.Frag} {mg : Str → Option Value} {base : Heap} (E : Fx w K mg) : Dfn P w K mg base "_law_side_deed" 3 T__law_side_deed := by
  obtain ⟨fd, ps, F, hk, hb⟩ := (a__law_side_deed (P := P) (base := base) E).ex
  exact ⟨⟨_, fd, ps, F, E.f__law_side_deed.1, hk, hb⟩, by decide⟩
def T__law_deed : Tr := fun ys M k => Stop (∃ (f : Addr) (ns : List Int) (now : Int), ys = [.v (.ref f), .d (.int now)] ∧ (Dr M f ns ∧ 0 ≤ now ∧ now < L12) ∧ ∀ e due ns' M', DeedOk now e due → nneg ns' → ns'.length ≤ 100 → M' f = some (.lst (intL ns')) → Kept M M' f → k (.d (.tuple [enc e, .int due])) M')
theorem w__law_deed {P : Program} {w : World} {K : PySem.W.Frag} {mg : Str → Option Value} {base : Heap} (E : Fx w K mg) {X : Cx} (C : Cxi X P w K mg base 3) (A : At X ["_law_draws_here", "_law_now", "_law_e", "_law_cell", "_law_word", "_law_number", "_law_way", "_law_due", "_law_told", "_law_at", "_law_below", "_law_inner", "_law_long"] (defScope (top 149)) true) {ys : List Sy} {M : Mem} {k : Sy → Mem → Prop} (hT : T__law_deed ys M k) :
    ExK X (startG ["_law_draws_here", "_law_now", "_law_e", "_law_cell", "_law_word", "_law_number", "_law_way", "_law_due", "_law_told", "_law_at", "_law_below", "_law_inner", "_law_long"] ys) M (defBody (top 149)) { nx := fun _ M' => Fz k (.d .none) M', rt := Fz k } := by
  have s0 : Slot X 0 "_law_draws_here" := A.slot (by decide +kernel)
  have s1 : Slot X 1 "_law_now" := A.slot (by decide +kernel)
  have s2 : Slot X 2 "_law_e" := A.slot (by decide +kernel)
  have s3 : Slot X 3 "_law_cell" := A.slot (by decide +kernel)
  have s4 : Slot X 4 "_law_word" := A.slot (by decide +kernel)
  have s5 : Slot X 5 "_law_number" := A.slot (by decide +kernel)
  have s6 : Slot X 6 "_law_way" := A.slot (by decide +kernel)
  have s7 : Slot X 7 "_law_due" := A.slot (by decide +kernel)
  have s8 : Slot X 8 "_law_told" := A.slot (by decide +kernel)
  have s9 : Slot X 9 "_law_at" := A.slot (by decide +kernel)
  have s10 : Slot X 10 "_law_below" := A.slot (by decide +kernel)
  have s11 : Slot X 11 "_law_inner" := A.slot (by decide +kernel)
  have s12 : Slot X 12 "_law_long" := A.slot (by decide +kernel)
  have d__law_next := d__law_next (P := P) (w := w) (K := K) (mg := mg) (base := base) E
  have d__law_reckoned := d__law_reckoned (P := P) (w := w) (K := K) (mg := mg) (base := base) E
  have d__law_place := d__law_place (P := P) (w := w) (K := K) (mg := mg) (base := base) E
  have d__law_side_deed := d__law_side_deed (P := P) (w := w) (K := K) (mg := mg) (base := base) E
  obtain ⟨f, ns, now, rfl, ⟨hD, hnow⟩, q⟩ := hT.go
  have hmul := mul_of_now hnow
  have hnow2 : now < 1000000000000 := hnow.2
  refine ex_open (by rfl) ?_
  repeat walk_at "sx"
  refine .mk ⟨f, ns, rfl, hD, fun c ns1 hc hn1 hl1 => ?_⟩
  repeat walk_at "sx"
  refine it_slAny (by omega) (by (show c / 9 % 5 < (5 : Nat)); omega) fun y hy => ?_
  obtain ⟨w1, hw, rfl⟩ := word_in hy
  repeat walk_at "sx"
  refine .mk ⟨f, ns1, rfl, ⟨updM_same, hn1, hl1⟩, fun c2 ns2 hc2 hn2 hl2 => ?_⟩
  try simp only [updM_updM]
  have hk : Kept M (updM M f (.lst (intL ns2))) f := .upd
  repeat walk_at "sx"
  refine it_slAny (by omega) (by (show c / 45 % 3 < (3 : Nat)); omega) fun y hy => ?_
  obtain ⟨n, hn, rfl⟩ := num_in hy ⟨by omega, by (show _ < (1000000000000 : Int)); omega⟩ ⟨by omega, by (show _ < (1000000000000 : Int)); omega⟩ hnow
  have hmuln := mul_of_now hn
  repeat walk_at "sx"
  by_cases way0 : c % 9 = 0
  · refine ifT (decide_eq_true way0) ?_
    repeat walk_at "sx"
    refine .mk ⟨w1, now, n, rfl, ⟨hw, hmul⟩, ?_⟩
    repeat walk_at "sx"
    exact .is (q _ _ ns2 _ (deed_rn hw hn) hn2 hl2 updM_same hk)
  refine ifF (decide_eq_false way0) ?_
  repeat walk_at "sx"
  by_cases way1 : c % 9 = 1
  · refine ifT (decide_eq_true way1) ?_
    repeat walk_at "sx"
    refine .mk ⟨w1, n, now, rfl, ⟨hw, hmuln⟩, ?_⟩
    repeat walk_at "sx"
    exact .is (q _ _ ns2 _ (deed_nr hw hn) hn2 hl2 updM_same hk)
  refine ifF (decide_eq_false way1) ?_
  repeat walk_at "sx"
  by_cases way2 : c % 9 = 2
  · refine ifT (decide_eq_true way2) ?_
    repeat walk_at "sx"
    refine .mk ⟨_, now, n, rfl, ⟨w_plus, hmul⟩, ?_⟩
    repeat walk_at "sx"
    have hd := deed_if (now := now) hn
    by_cases z : now = 0
    · rw [if_pos z] at hd
      refine ifF (by rw [decide_eq_true z]; rfl) ?_
      repeat walk_at "sx"
      exact .is (q _ _ ns2 _ hd hn2 hl2 updM_same hk)
    · rw [if_neg z] at hd
      refine ifT (by rw [decide_eq_false z]; rfl) ?_
      repeat walk_at "sx"
      exact .is (q _ _ ns2 _ hd hn2 hl2 updM_same hk)
  refine ifF (decide_eq_false way2) ?_
  repeat walk_at "sx"
  by_cases way3 : c % 9 = 3
  · refine ifT (decide_eq_true way3) ?_
    repeat walk_at "sx"
    refine .mk ⟨f, ns2, rfl, ⟨updM_same, hn2, hl2⟩, fun i e at_ below ns3 hPl hn3 hl3 => ?_⟩
    try simp only [updM_updM]
    have hk3 : Kept M (updM M f (.lst (intL ns3))) f := .upd
    repeat walk_at "sx"
    refine .mk ⟨w1, now, at_, rfl, ⟨hw, hmul⟩, ?_⟩
    repeat walk_at "sx"
    exact .is (q _ _ ns3 _ (deed_pl hw hPl) hn3 hl3 updM_same hk3)
  refine ifF (decide_eq_false way3) ?_
  repeat walk_at "sx"
  by_cases way4 : c % 9 = 4
  · refine ifT (decide_eq_true way4) ?_
    repeat walk_at "sx"
    refine .mk ⟨w1, now, now, rfl, ⟨hw, hmul⟩, ?_⟩
    repeat walk_at "sx"
    exact .is (q _ _ ns2 _ (deed_ee hw) hn2 hl2 updM_same hk)
  refine ifF (decide_eq_false way4) ?_
  repeat walk_at "sx"
  by_cases way5 : c % 9 = 5
  · refine ifT (decide_eq_true way5) ?_
    repeat walk_at "sx"
    refine .mk ⟨_, now, n, rfl, ⟨w_plus, hmul⟩, ?_⟩
    repeat walk_at "sx"
    refine .mk ⟨_, _, _, rfl, ⟨w_times, (mul_of_now (rkv_b w_plus))⟩, ?_⟩
    repeat walk_at "sx"
    exact .is (q _ _ ns2 _ (deed_let hn) hn2 hl2 updM_same hk)
  refine ifF (decide_eq_false way5) ?_
  repeat walk_at "sx"
  by_cases way6 : c % 9 = 6
  · refine ifT (decide_eq_true way6) ?_
    repeat walk_at "sx"
    refine .mk ⟨_, _, now, rfl, ⟨w_minus, ⟨by omega, by omega⟩⟩, ?_⟩
    repeat walk_at "sx"
    exact .is (q _ _ ns2 _ (deed_len ⟨by omega, by omega⟩) hn2 hl2 updM_same hk)
  refine ifF (decide_eq_false way6) ?_
  repeat walk_at "sx"
  refine .mk ⟨_, f, ns2, now, rfl, ⟨⟨updM_same, hn2, hl2⟩, hnow⟩, fun e due ns3 M3 hd hn3 hl3 hm3 hk3 => ?_⟩
  repeat walk_at "sx"
  exact .is (q e due ns3 M3 hd hn3 hl3 hm3 (hk.trans hk3))
theorem a__law_deed {P : Program} {w : World} {K : PySem.W.Frag} {mg : Str → Option Value} {base : Heap} (E : Fx w K mg) : Fat P w K mg base (He.ga K "_law_deed") 4 T__law_deed := by
  obtain ⟨hm, fd, F⟩ := E.f__law_deed
  refine ⟨⟨fd, ["_law_draws_here", "_law_now"], def_okF (N := ["_law_draws_here", "_law_now", "_law_e", "_law_cell", "_law_word", "_law_number", "_law_way", "_law_due", "_law_told", "_law_at", "_law_below", "_law_inner", "_law_long"]) F ⟨rfl, rfl, rfl, by decide +kernel, rfl, by decide +kernel, by decide +kernel⟩ (fun ys M k h => ?_) (fun X C A ys M k h => w__law_deed E C A h), F.kp, F.bindsN fun _ _ _ _ _ _ us hl => match us, hl with | [_, _], _ => rfl⟩⟩
  replace h := Stop.go h
  first | (obtain ⟨_, h, _⟩ := h; rw [h]; rfl) | (obtain ⟨_, _, h, _⟩ := h; rw [h]; rfl) | (obtain ⟨_, _, _, h, _⟩ := h; rw [h]; rfl) | (obtain ⟨_, _, _, _, h, _⟩ := h; rw [h]; rfl) | (obtain ⟨_, _, _, _, _, h, _⟩ := h; rw [h]; rfl) | (obtain ⟨_, _, _, _, _, _, h, _⟩ := h; rw [h]; rfl) | (obtain ⟨_, _, _, _, _, _, _, h, _⟩ := h; rw [h]; rfl) | (obtain ⟨_, _, _, _, _, _, _, _, h, _⟩ := h; rw [h]; rfl)
theorem d__law_deed {P : Program} {w : World} {K : PySem.W.Frag} {mg : Str → Option Value} {base : Heap} (E : Fx w K mg) : Dfn P w K mg base "_law_deed" 4 T__law_deed := by
  obtain ⟨fd, ps, F, hk, hb⟩ := (a__law_deed (P := P) (base := base) E).ex
  exact ⟨⟨_, fd, ps, F, E.f__law_deed.1, hk, hb⟩, by decide⟩
section
local macro_rules | `(tactic| walk_at "sxEx") => `(tactic| first
  | ((with_reducible refine ex_lputS ?_ ?_ ?_ ?_); rotate_left; rfl; rfl; (intro _; rfl)))
def T__law_draws : Tr := fun ys M k => Stop (∃ (a b c : Int), ys = [.sl (intL [a, b, c]), .d (.int 18)] ∧ ∀ f ns M', Dr M' f ns → M f = none → (∀ x t, M x = some t → M' x = some t) → k (.v (.ref f)) M')
theorem w__law_draws {P : Program} {w : World} {K : PySem.W.Frag} {mg : Str → Option Value} {base : Heap} (E : Fx w K mg) {X : Cx} (C : Cxi X P w K mg base 0) (A : At X ["_law_cells", "_law_many", "_law_rests", "_law_cell", "_law_found", "_law_k", "_law_j", "_law_number"] (defScope (top 144)) true) {ys : List Sy} {M : Mem} {k : Sy → Mem → Prop} (hT : T__law_draws ys M k) :
    ExK X (startG ["_law_cells", "_law_many", "_law_rests", "_law_cell", "_law_found", "_law_k", "_law_j", "_law_number"] ys) M (defBody (top 144)) { nx := fun _ M' => Fz k (.d .none) M', rt := Fz k } := by
  have s0 : Slot X 0 "_law_cells" := A.slot (by decide +kernel)
  have s1 : Slot X 1 "_law_many" := A.slot (by decide +kernel)
  have s2 : Slot X 2 "_law_rests" := A.slot (by decide +kernel)
  have s4 : Slot X 4 "_law_found" := A.slot (by decide +kernel)
  have s5 : Slot X 5 "_law_k" := A.slot (by decide +kernel)
  have s6 : Slot X 6 "_law_j" := A.slot (by decide +kernel)
  have s7 : Slot X 7 "_law_number" := A.slot (by decide +kernel)
  have b_range := E.b_range
  have b_len := E.bf_len
  obtain ⟨a, b, c, rfl, q⟩ := hT.go
  have h3 : 0 < ((intL [a, b, c]).length : Int) := by rw [intL_len]; show (0 : Int) < ((3 : Nat) : Int); decide
  refine ex_open (by rfl) ?_
  refine ex_setLc half 3 C A (by assumption) (by decide +kernel) (pk_sl ?_) (sw_true (by rw [A.hS]; rfl) (by rw [A.hS]; decide +kernel) (by decide +kernel) (by decide +kernel))
  repeat walk_at "sx"
  refine ⟨⟨by rw [intL_len]; exact Nat.le_of_ble_eq_true rfl, fun X' hX y hy M1 => ?_⟩, ?_⟩
  · obtain ⟨v, _, rfl⟩ := intL_in hy
    have A' := hX.at A
    have C' := hX.cxi C
    have s3' : Slot X' 3 "_law_cell" := A'.slot (by decide +kernel)
    repeat walk_at "sx"
    try exact ⟨rfl, rfl⟩
    try rfl
  intro ar har
  have e0 : (intL [a, b, c]).map half = intL [a / 2, b / 2, c / 2] := rfl
  rw [e0]
  repeat walk_at "sx"
  rename_i af haf
  have nfr : af ≠ ar := fun z => by rw [z, updM_same] at haf; cases haf
  have haf2 : M af = none := by rw [updM_ne nfr] at haf; exact haf
  refine ex_for C (bnd_name C.nd s5) (pk_range1 C (A.gl (by decide +kernel)) b_range ?_) (by intro _; rfl)
  repeat walk_at "sx"
  refine forL_inv (fun i G M' => Stop (∃ rs ns o5 o6 o7, (rs.length = 3 ∧ nneg ns ∧ ns.length ≤ i) ∧ G = [some (.sl (intL [a, b, c])), some (.d (.int 18)), some (.v (.ref ar)), none, some (.v (.ref af)), o5, o6, o7] ∧ M' ar = some (.lst (intL rs)) ∧ M' af = some (.lst (intL ns)) ∧ ∀ x t, M x = some t → M' x = some t)) 0 (.mk ⟨[a / 2, b / 2, c / 2], [], none, none, none, ⟨rfl, nneg_nil, Nat.le_refl _⟩, rfl, by rw [updM_ne nfr.symm]; exact updM_same, updM_same, fun x t h => by rw [updM_ne (neM h haf2), updM_ne (neM h har)]; exact h⟩) ?_ ?_
  · intro i y G M1 hy hP
    obtain ⟨rs, ns, o5, o6, o7, ⟨hr, hn, hl⟩, rfl, g1, g2, g3⟩ := hP.go
    obtain ⟨hi, hy2⟩ := rngL_get hy
    have hi2 : i < 18 := hi
    have ey : y = .d (.int (i : Nat)) := by rw [hy2]; congr 2; omega
    subst ey
    have hj : ((i : Nat) : Int) % ((intL [a, b, c]).length : Nat) = ((i % 3 : Nat) : Int) := by rw [intL_len]; rfl
    have hj3 : i % 3 < 3 := by omega
    have hcl : (intL [a, b, c]).length = 3 := by rw [intL_len]; rfl
    have hrl : (intL rs).length = 3 := by rw [intL_len]; exact hr
    have hnl : (intL ns).length ≤ 100000 := by rw [intL_len]; omega
    rw [Nat.zero_add] at hl
    repeat walk_at "sx"
    rw [hj]
    repeat walk_at "sx"
    refine it_slAny (by omega) (by rw [hcl]; omega) fun y hy => ?_
    obtain ⟨v, _, rfl⟩ := intL_in hy
    repeat walk_at "sx"
    have two : ∀ (c1 : Bool) (r : Int), r = r → True := fun _ _ _ => True.intro
    by_cases h0 : v % 2 = 0
    · refine ifT (decide_eq_true h0) ?_
      repeat walk_at "sx"
      refine it_memAny g1 (by omega) (by rw [hrl]; omega) fun y hy => ?_
      obtain ⟨v1, _, rfl⟩ := intL_in hy
      repeat walk_at "sx"
      by_cases h1 : 0 < v1
      · refine ifT (decide_eq_true h1) ?_
        repeat walk_at "sx"
        refine it_memAny g1 (by omega) (by rw [hrl]; omega) fun y hy => ?_
        obtain ⟨v2, _, rfl⟩ := intL_in hy
        repeat walk_at "sx"
        have hp2 : 0 ≤ v2 % 100000000000000 := Int.emod_nonneg _ (by decide)
        have g1' : ∀ t, updM M1 af t ar = some (.lst (intL rs)) := fun t => by rw [updM_ne nfr.symm]; exact g1
        refine it_memAny (g1' _) (by omega) (by rw [hrl]; omega) fun y hy => ?_
        obtain ⟨v3, _, rfl⟩ := intL_in hy
        repeat walk_at "sx"
        refine .mk ⟨ar, intL rs, i % 3, rfl, rfl, g1' _, by rw [hrl]; exact hj3, ?_⟩
        rw [intL_set, intL_app]
        repeat walk_at "sx"
        exact .mk ⟨_, _, _, _, _, ⟨by rw [List.length_set]; exact hr, nneg_app hn hp2, by rw [List.length_append]; simp; omega⟩, rfl, updM_same, by rw [updM_ne nfr]; exact updM_same, fun x t h => by rw [updM_ne (neM h har), updM_ne (neM h haf2)]; exact g3 x t h⟩
      · refine ifF (decide_eq_false h1) ?_
        repeat walk_at "sx"
        refine it_slAny (by omega) (by rw [hcl]; omega) fun y hy => ?_
        obtain ⟨v5, _, rfl⟩ := intL_in hy
        repeat walk_at "sx"
        refine ok_mul (.inl ⟨by decide, by decide⟩) ?_
        repeat walk_at "sx"
        refine ok_mul (.inr ⟨by decide, by decide⟩) ?_
        repeat walk_at "sx"
        obtain ⟨v6, h6, h60, h61⟩ : ∃ v6, (v5 % 1000000000000000000000000000000 + 7919 * (i : Int) + 3) * 69621 % 2147483647 = v6 ∧ 0 ≤ v6 ∧ v6 < 2147483647 := ⟨_, rfl, Int.emod_nonneg _ (by decide), Int.emod_lt_of_pos _ (by decide)⟩
        rw [h6]
        repeat walk_at "sx"
        refine ok_mul (.inl ⟨by omega, by omega⟩) ?_
        repeat walk_at "sx"
        refine ok_mul (.inr ⟨by decide, by decide⟩) ?_
        repeat walk_at "sx"
        rw [intL_app]
        exact .mk ⟨_, _, _, _, _, ⟨hr, nneg_app hn (show 0 ≤ v6 * v6 * 48271 % 99999999999973 from Int.emod_nonneg _ (by decide)), by rw [List.length_append]; simp; omega⟩, rfl, by rw [updM_ne nfr.symm]; exact g1, updM_same, fun x t h => by rw [updM_ne (neM h haf2)]; exact g3 x t h⟩
    · refine ifF (decide_eq_false h0) ?_
      repeat walk_at "sx"
      refine it_slAny (by omega) (by rw [hcl]; omega) fun y hy => ?_
      obtain ⟨v5, _, rfl⟩ := intL_in hy
      repeat walk_at "sx"
      refine ok_mul (.inl ⟨by decide, by decide⟩) ?_
      repeat walk_at "sx"
      refine ok_mul (.inr ⟨by decide, by decide⟩) ?_
      repeat walk_at "sx"
      obtain ⟨v6, h6, h60, h61⟩ : ∃ v6, (v5 % 1000000000000000000000000000000 + 7919 * (i : Int) + 3) * 69621 % 2147483647 = v6 ∧ 0 ≤ v6 ∧ v6 < 2147483647 := ⟨_, rfl, Int.emod_nonneg _ (by decide), Int.emod_lt_of_pos _ (by decide)⟩
      rw [h6]
      repeat walk_at "sx"
      refine ok_mul (.inl ⟨by omega, by omega⟩) ?_
      repeat walk_at "sx"
      refine ok_mul (.inr ⟨by decide, by decide⟩) ?_
      repeat walk_at "sx"
      rw [intL_app]
      exact .mk ⟨_, _, _, _, _, ⟨hr, nneg_app hn (show 0 ≤ v6 * v6 * 48271 % 99999999999973 from Int.emod_nonneg _ (by decide)), by rw [List.length_append]; simp; omega⟩, rfl, by rw [updM_ne nfr.symm]; exact g1, updM_same, fun x t h => by rw [updM_ne (neM h haf2)]; exact g3 x t h⟩
  intro G M1 hP
  obtain ⟨rs, ns, o5, o6, o7, ⟨hr, hn, hl⟩, rfl, g1, g2, g3⟩ := hP.go
  have hl2 : ns.length ≤ 100 := Nat.le_trans hl (by decide)
  refine ex_ret (ev_revM ?_)
  repeat walk_at "sx"
  rw [intL_rev]
  rename_i a4 ha4
  have hM : M a4 = none := by
    cases hq : M a4 with
    | none => rfl
    | some t => rw [g3 _ _ hq] at ha4; cases ha4
  refine .is (q a4 ns.reverse _ ⟨updM_same, nneg_rev hn, by rw [List.length_reverse]; exact hl2⟩ hM fun x t h => ?_)
  rw [updM_ne (neM (g3 x t h) ha4)]
  exact g3 x t h
theorem a__law_draws {P : Program} {w : World} {K : PySem.W.Frag} {mg : Str → Option Value} {base : Heap} (E : Fx w K mg) : Fat P w K mg base (He.ga K "_law_draws") 1 T__law_draws := by
  obtain ⟨hm, fd, F⟩ := E.f__law_draws
  refine ⟨⟨fd, ["_law_cells", "_law_many"], def_okF (N := ["_law_cells", "_law_many", "_law_rests", "_law_cell", "_law_found", "_law_k", "_law_j", "_law_number"]) F ⟨rfl, rfl, rfl, by decide +kernel, rfl, by decide +kernel, by decide +kernel⟩ (fun ys M k h => ?_) (fun X C A ys M k h => w__law_draws E C A h), F.kp, F.bindsN fun _ _ _ _ _ _ us hl => match us, hl with | [_, _], _ => rfl⟩⟩
  replace h := Stop.go h
  first | (obtain ⟨_, h, _⟩ := h; rw [h]; rfl) | (obtain ⟨_, _, h, _⟩ := h; rw [h]; rfl) | (obtain ⟨_, _, _, h, _⟩ := h; rw [h]; rfl) | (obtain ⟨_, _, _, _, h, _⟩ := h; rw [h]; rfl) | (obtain ⟨_, _, _, _, _, h, _⟩ := h; rw [h]; rfl) | (obtain ⟨_, _, _, _, _, _, h, _⟩ := h; rw [h]; rfl) | (obtain ⟨_, _, _, _, _, _, _, h, _⟩ := h; rw [h]; rfl) | (obtain ⟨_, _, _, _, _, _, _, _, h, _⟩ := h; rw [h]; rfl)
theorem d__law_draws {P : Program} {w : World} {K : PySem.W.Frag} {mg : Str → Option Value} {base : Heap} (E : Fx w K mg) : Dfn P w K mg base "_law_draws" 1 T__law_draws := by
  obtain ⟨fd, ps, F, hk, hb⟩ := (a__law_draws (P := P) (base := base) E).ex
  exact ⟨⟨_, fd, ps, F, E.f__law_draws.1, hk, hb⟩, by decide⟩
end
def T_law : Tr := fun ys M k => Stop (∃ (zs : List Int), ys = [.d (.list (zs.map PyData.int))] ∧ zs.length ≤ 63 ∧ ∀ M', k (.d (.bool true)) M')
theorem w_law {P : Program} {w : World} {K : PySem.W.Frag} {mg : Str → Option Value} {base : Heap} (E : Fx w K mg) {X : Cx} (C : Cxi X P w K mg base 50) (A : At X ["_law_script", "_law_asks", "_law_dues", "_law_begin", "_law_draws_here", "_law_first", "_law_now", "_law_told", "_law_k", "_law_deed_here", "_law_run", "_law_due", "_law_found"] (defScope (top 150)) true) {ys : List Sy} {M : Mem} {k : Sy → Mem → Prop} (hT : T_law ys M k) :
    ExK X (startG ["_law_script", "_law_asks", "_law_dues", "_law_begin", "_law_draws_here", "_law_first", "_law_now", "_law_told", "_law_k", "_law_deed_here", "_law_run", "_law_due", "_law_found"] ys) M (defBody (top 150)) { nx := fun _ M' => Fz k (.d .none) M', rt := Fz k } := by
  have s0 : Slot X 0 "_law_script" := A.slot (by decide +kernel)
  have s1 : Slot X 1 "_law_asks" := A.slot (by decide +kernel)
  have s2 : Slot X 2 "_law_dues" := A.slot (by decide +kernel)
  have s3 : Slot X 3 "_law_begin" := A.slot (by decide +kernel)
  have s4 : Slot X 4 "_law_draws_here" := A.slot (by decide +kernel)
  have s5 : Slot X 5 "_law_first" := A.slot (by decide +kernel)
  have s6 : Slot X 6 "_law_now" := A.slot (by decide +kernel)
  have s7 : Slot X 7 "_law_told" := A.slot (by decide +kernel)
  have s8 : Slot X 8 "_law_k" := A.slot (by decide +kernel)
  have s9 : Slot X 9 "_law_deed_here" := A.slot (by decide +kernel)
  have s10 : Slot X 10 "_law_run" := A.slot (by decide +kernel)
  have s11 : Slot X 11 "_law_due" := A.slot (by decide +kernel)
  have s12 : Slot X 12 "_law_found" := A.slot (by decide +kernel)
  have b_range := E.b_range
  have b_max := E.bf_max
  have b_len := E.bf_len
  have d__law_draws := d__law_draws (P := P) (w := w) (K := K) (mg := mg) (base := base) E
  have d__law_next := d__law_next (P := P) (w := w) (K := K) (mg := mg) (base := base) E
  have d__law_deed := d__law_deed (P := P) (w := w) (K := K) (mg := mg) (base := base) E
  have b_enumerate := E.b_enumerate
  have b_isinstance := E.bf_isinstance
  have b_tuple := E.bt_tuple
  have b_bool := E.bt_bool
  obtain ⟨zs, rfl, hl, q⟩ := hT.go
  have mf := m_Found___init__ (P := P) (base := base) E
  have mp := m_PlainRun___init__ (P := P) (base := base) E
  have mq := m_PlainRun_asked (P := P) (base := base) E
  have hzl : (zs.map PyData.int).length ≤ 63 := by rw [List.length_map]; exact hl
  refine ex_open (by rfl) ?_
  repeat walk_at "sx"
  rename_i a1 ha1 a2 ha2
  have n12 : a2 ≠ a1 := fun z => by rw [z, updM_same] at ha2; cases ha2
  refine ex_for C (bnd_name C.nd s3) (pk_range3 C (A.gl (by decide +kernel)) b_range ?_) (by intro _; rfl)
  repeat walk_at "sx"
  refine ca_lenD ?_
  repeat walk_at "sx"
  refine ca_max C ?_
  obtain ⟨n, hn, hn0, hn1⟩ : ∃ n, (if (((zs.map PyData.int).length : Nat) : Int) > 1 then (((zs.map PyData.int).length : Nat) : Int) else 1) = n ∧ 0 ≤ n ∧ n ≤ 63 := ⟨_, rfl, by split <;> omega, by split <;> omega⟩
  rw [hn]
  have hrg := rg_3 hn0 (show n ≤ 1000 by omega)
  repeat walk_at "sx"
  try refine ⟨fun _ _ => True.intro, ?_⟩
  refine forL_inv (fun i G M' => Stop (∃ ps o3 o4 o5 o6 o7 o8 o9, (ps.length = i ∧ ∀ p ∈ ps, askP p) ∧ G = [some (.d (.list (zs.map PyData.int))), some (.v (.ref a1)), some (.v (.ref a2)), o3, o4, o5, o6, o7, o8, o9, none, none, none] ∧ M' a1 = some (.lst (asksL ps)) ∧ M' a2 = some (.lst (duesL ps)))) 0 (.mk ⟨[], none, none, none, none, none, none, none, ⟨rfl, fun _ h => absurd h (by simp)⟩, rfl, by rw [updM_ne n12.symm]; exact updM_same, updM_same⟩) ?_ ?_
  · intro i y G M1 hy hP
    obtain ⟨ps, o3, o4, o5, o6, o7, o8, o9, ⟨hpl, hps⟩, rfl, g1, g2⟩ := hP.go
    obtain ⟨hi, ey⟩ := rngL_get hy
    subst ey
    rw [Nat.zero_add] at hpl
    have hpl2 : (asksL ps).length ≤ 100000 := by rw [asksL_len]; omega
    have hpl3 : (duesL ps).length ≤ 100000 := by rw [duesL_len]; omega
    repeat walk_at "sx"
    refine sk_dl ?_
    repeat walk_at "sx"
    refine ok_rep (by decide) (by decide) (Nat.le_of_ble_eq_true rfl) ?_
    refine ok_cat ?_ ?_
    · rw [List.length_map]
      have h1 := @cutY_len _ (zs.map PyData.int) (some (0 + (i : Int) * 3)) (some (0 + (i : Int) * 3 + 3))
      have h2 : (List.replicate (3 : Int).toNat [Sy.d (.int 0)]).flatten.length = 3 := rfl
      omega
    repeat walk_at "sx"
    refine sk_sl ?_
    obtain ⟨a, b, c, hc⟩ := @cells zs (some (0 + (i : Int) * 3)) (some (0 + (i : Int) * 3 + 3))
    rw [hc]
    repeat walk_at "sx"
    refine .mk ⟨a, b, c, rfl, fun f ns M2 hD hf g3 => ?_⟩
    repeat walk_at "sx"
    refine .mk ⟨f, ns, rfl, hD, fun v ns1 hv hn2 hl1 => ?_⟩
    repeat walk_at "sx"
    refine it_slAny (by omega) (by (show v % 3 < (3 : Nat)); omega) fun y hy => ?_
    obtain ⟨now, hnow, rfl⟩ := num_in hy ⟨by decide, by decide⟩ ⟨by decide, by decide⟩ ⟨by omega, by (show _ < (1000000000000 : Int)); omega⟩
    repeat walk_at "sx"
    refine ex_for C (bnd_name C.nd s8) (pk_range1 C (A.gl (by decide +kernel)) b_range ?_) (by intro _; rfl)
    repeat walk_at "sx"
    try refine ⟨fun _ _ => True.intro, ?_⟩
    refine forL_inv (fun j G M' => Stop (∃ e now ns o8 o9, (ToldOk j e now ∧ nneg ns ∧ ns.length ≤ 100) ∧ G = [some (.d (.list (zs.map PyData.int))), some (.v (.ref a1)), some (.v (.ref a2)), some (.d (.int (0 + (i : Int) * 3))), some (.v (.ref f)), some (.d (.int v)), some (.d (.int now)), some (.d (enc e)), o8, o9, none, none, none] ∧ M' f = some (.lst (intL ns)) ∧ ∀ x t, x ≠ f → M1 x = some t → M' x = some t)) 0 (.mk ⟨.num now, now, ns1, _, _, ⟨told_0 hnow, hn2, hl1⟩, rfl, updM_same, fun x t hx h => by rw [updM_ne hx]; exact g3 x t h⟩) ?_ ?_
    · intro j y G M3 hy hP
      obtain ⟨e, now, ns2, p8, p9, ⟨hT3, hn3, hl2⟩, rfl, u1, u2⟩ := hP.go
      obtain ⟨hj, ey⟩ := rngL_get hy
      subst ey
      have hj3 : j < 3 := hj
      rw [Nat.zero_add] at hT3
      obtain ⟨_, _, _, _, t5, t6, _⟩ := id hT3
      repeat walk_at "sx"
      refine .mk ⟨f, ns2, now, rfl, ⟨⟨u1, hn3, hl2⟩, t5, t6⟩, fun d due ns3 M4 hd hn4 hl3 hm3 hk3 => ?_⟩
      repeat walk_at "sx"
      exact .mk ⟨.lt "e" e d, due, ns3, _, _, ⟨by rw [Nat.zero_add]; exact told_s hT3 hj3 hd, hn4, hl3⟩, rfl, hm3, fun x t hx h => hk3 x t hx (u2 x t hx h)⟩
    · intro G M3 hP
      obtain ⟨e, now2, ns2, p8, p9, ⟨hT3, hn3, hl2⟩, rfl, u1, u2⟩ := hP.go
      have hT4 : ToldOk 3 e now2 := hT3
      obtain ⟨hask, hval⟩ := told_ask hT4
      have v1 : M3 a1 = some (.lst (asksL ps)) := u2 a1 _ (neM g1 hf) g1
      have v2 : M3 a2 = some (.lst (duesL ps)) := u2 a2 _ (neM g2 hf) g2
      have v3 : updM M3 a1 (.lst (asksL ps ++ [.d (.tuple [.str "ask", enc e])])) a2 = some (.lst (duesL ps)) := by rw [updM_ne n12]; exact v2
      repeat walk_at "sx"
      refine .mk ⟨ps ++ [(e, now2)], _, _, _, _, _, _, _, ⟨by rw [List.length_append, hpl]; simp, fun p hp => ?_⟩, rfl, ?_, ?_⟩
      · rcases List.mem_append.mp hp with hp | hp
        · exact hps p hp
        · rw [List.mem_singleton.mp hp]
          exact ⟨hask, hval⟩
      · rw [updM_ne n12.symm, updM_same]
        exact congrArg (fun z => some (TO.lst z)) asksL_app
      · rw [updM_same]
        exact congrArg (fun z => some (TO.lst z)) duesL_app
  intro G M1 hP
  obtain ⟨ps, o3, o4, o5, o6, o7, o8, o9, ⟨hpl, hps⟩, rfl, g1, g2⟩ := hP.go
  have hpl4 : (asksL ps).length ≤ 21 := by
    rw [asksL_len, hpl, rngL_len]
    omega
  repeat walk_at "sx"
  refine ex_for C (bnd_name C.nd s3) (pk_range3 C (A.gl (by decide +kernel)) b_range ?_) (by intro _; rfl)
  have hrg2 := rg_12 (n := ((asksL ps).length : Nat)) (by omega) (by omega)
  repeat walk_at "sx"
  try refine ⟨fun _ _ => True.intro, ?_⟩
  refine forL_inv (fun i G M' => Stop (∃ o3 o4 o5 o6 o7 o8 o9 o10 o11 o12, G = [some (.d (.list (zs.map PyData.int))), some (.v (.ref a1)), some (.v (.ref a2)), o3, o4, o5, o6, o7, o8, o9, o10, o11, o12] ∧ M' a1 = some (.lst (asksL ps)) ∧ M' a2 = some (.lst (duesL ps)))) 0 (.mk ⟨_, _, _, _, _, _, _, _, _, _, rfl, g1, g2⟩) ?_ ?_
  · intro i y G M1 hy hP
    obtain ⟨o3, o4, o5, o6, o7, o8, o9, o10, o11, o12, rfl, g1, g2⟩ := hP.go
    obtain ⟨hi, ey⟩ := rngL_get hy
    subst ey
    have hcl : (cutY ps (some (0 + (i : Int) * 12)) (some (0 + (i : Int) * 12 + 12))).length ≤ 12 := by
      have q := @cutY_12 _ ps (i * 12)
      have e1 : ((i * 12 : Nat) : Int) = 0 + (i : Int) * 12 := by omega
      have e2 : ((i * 12 + 12 : Nat) : Int) = 0 + (i : Int) * 12 + 12 := by omega
      rw [e1, e2] at q
      exact q
    have hpm : ∀ p ∈ cutY ps (some (0 + (i : Int) * 12)) (some (0 + (i : Int) * 12 + 12)), askP p := fun p hp => hps p (cutY_mem hp)
    repeat walk_at "sx"
    refine sk_mem g1 ?_
    rw [asksL_cut]
    obtain ⟨ps', hps'⟩ : ∃ ps', cutY ps (some (0 + (i : Int) * 12)) (some (0 + (i : Int) * 12 + 12)) = ps' := ⟨_, rfl⟩
    rw [hps'] at hcl hpm ⊢
    repeat walk_at "sx"
    refine newI fun fo dx hfo => ?_
    refine .mk ⟨fo, dx, ps'.map Prod.fst, rfl, ⟨updM_same, by rw [List.length_map]; exact hcl, fun e he => ?_⟩, fun M2 kd mm nk h1 h2 h3 h4 => ?_⟩
    · obtain ⟨p, hp, rfl⟩ := List.mem_map.mp he
      exact (hpm p hp).1
    have k1 : M2 a1 = some (.lst (asksL ps)) := h4 a1 _ (neM g1 hfo) (by rw [updM_ne (neM g1 hfo)]; exact g1)
    have k2 : M2 a2 = some (.lst (duesL ps)) := h4 a2 _ (neM g2 hfo) (by rw [updM_ne (neM g2 hfo)]; exact g2)
    repeat walk_at "sx"
    refine newI fun ro dx2 hro => ?_
    refine .mk ⟨ro, fo, dx2, dx, kd, ps'.map Prod.fst, nk, mm, rfl, ⟨updM_same, by rw [updM_ne (neM h1 hro)]; exact h1, by rw [updM_ne (neM h2 hro)]; exact h2, h3, by rw [List.length_map]; exact hcl, fun e he => ?_⟩, fun M3 as_ r1 r2 r3 => ?_⟩
    · obtain ⟨p, hp, rfl⟩ := List.mem_map.mp he
      exact (hpm p hp).1.1.2.1
    have m1 : M3 a1 = some (.lst (asksL ps)) := r3 a1 _ (neM k1 hro) (by rw [updM_ne (neM k1 hro)]; exact k1)
    have m2 : M3 a2 = some (.lst (duesL ps)) := r3 a2 _ (neM k2 hro) (by rw [updM_ne (neM k2 hro)]; exact k2)
    repeat walk_at "sx"
    refine ex_for C (bnd_tup C.nd C.calm (.cons s8 (.cons s11 .nil))) (pk_enum C (A.gl (by decide +kernel)) b_enumerate ?_) (by intro _; rfl)
    repeat walk_at "sx"
    refine sk_mem m2 ?_
    rw [duesL_cut, hps']
    repeat walk_at "sx"
    refine ⟨enumL_ok, forL_inv (fun j G M' => Stop (∃ o8 o11 o12, G = [some (.d (.list (zs.map PyData.int))), some (.v (.ref a1)), some (.v (.ref a2)), some (.d (.int (0 + (i : Int) * 12))), o4, o5, o6, o7, o8, o9, some (.v (.ref ro)), o11, o12] ∧ M' = M3)) 0 (.mk ⟨_, _, _, rfl, rfl⟩) ?_ ?_⟩
    · intro j y G M4 hy hP
      obtain ⟨q8, q11, q12, rfl, rfl⟩ := hP.go
      obtain ⟨d, hd, rfl⟩ := enumL_get hy
      rw [List.getElem?_map, List.getElem?_map] at hd
      obtain ⟨z, hz, rfl⟩ := Option.map_eq_some_iff.mp hd
      obtain ⟨p, hp, rfl⟩ := Option.map_eq_some_iff.mp hz
      obtain ⟨b1, b2⟩ := hpm p (List.mem_of_getElem? hp)
      repeat walk_at "sx"
      refine .mk ⟨_, _, _, rfl, r1, ro_asked, ?_⟩
      repeat walk_at "sx"
      refine .mk ⟨ro, fo, as_, dx2, ps'.map Prod.fst, j, p.1, rfl, ⟨r1, r2, by rw [List.getElem?_map, hp]; rfl, b1⟩, ?_⟩
      rw [b2]
      repeat walk_at "sx"
      refine ok_neD C (by rfl) (by rfl) ?_
      rw [eqv_pair]
      repeat walk_at "sx"
      exact .mk ⟨_, _, _, rfl, rfl⟩
    · intro G M4 hP
      obtain ⟨q8, q11, q12, rfl, rfl⟩ := hP.go
      repeat walk_at "sx"
      exact .mk ⟨_, _, _, _, _, _, _, _, _, _, rfl, m1, m2⟩
  intro G M1 hP
  obtain ⟨o3, o4, o5, o6, o7, o8, o9, o10, o11, o12, rfl, g1, g2⟩ := hP.go
  repeat walk_at "sx"
  exact .is (q _)
theorem a_law {P : Program} {w : World} {K : PySem.W.Frag} {mg : Str → Option Value} {base : Heap} (E : Fx w K mg) : Fat P w K mg base (He.ga K "law") 51 T_law := by
  obtain ⟨hm, fd, F⟩ := E.f_law
  refine ⟨⟨fd, ["_law_script"], def_okF (N := ["_law_script", "_law_asks", "_law_dues", "_law_begin", "_law_draws_here", "_law_first", "_law_now", "_law_told", "_law_k", "_law_deed_here", "_law_run", "_law_due", "_law_found"]) F ⟨rfl, rfl, rfl, by decide +kernel, rfl, by decide +kernel, by decide +kernel⟩ (fun ys M k h => ?_) (fun X C A ys M k h => w_law E C A h), F.kp, F.bindsN fun _ _ _ _ _ _ us hl => match us, hl with | [_], _ => rfl⟩⟩
  replace h := Stop.go h
  first | (obtain ⟨_, h, _⟩ := h; rw [h]; rfl) | (obtain ⟨_, _, h, _⟩ := h; rw [h]; rfl) | (obtain ⟨_, _, _, h, _⟩ := h; rw [h]; rfl) | (obtain ⟨_, _, _, _, h, _⟩ := h; rw [h]; rfl) | (obtain ⟨_, _, _, _, _, h, _⟩ := h; rw [h]; rfl) | (obtain ⟨_, _, _, _, _, _, h, _⟩ := h; rw [h]; rfl) | (obtain ⟨_, _, _, _, _, _, _, h, _⟩ := h; rw [h]; rfl) | (obtain ⟨_, _, _, _, _, _, _, _, h, _⟩ := h; rw [h]; rfl)
theorem d_law {P : Program} {w : World} {K : PySem.W.Frag} {mg : Str → Option Value} {base : Heap} (E : Fx w K mg) : Dfn P w K mg base "law" 51 T_law := by
  obtain ⟨fd, ps, F, hk, hb⟩ := (a_law (P := P) (base := base) E).ex
  exact ⟨⟨_, fd, ps, F, E.f_law.1, hk, hb⟩, by decide⟩
end Sx
namespace HeadB
open PySem PySem.Spec PyProof.Rows L2
open Sx (Fx Gvl top)
theorem gv_int {K : PySem.W.Frag} {mg : PySem.Str → Option Value} {x : PySem.Str} {i : Int} (h : ∃ t, mg x = some (.int i t)) (hd : (x == ("__debug__" : PySem.Str)) = false) : Gvl K mg x (.d (.int i)) := by
  obtain ⟨t, e⟩ := h
  exact ⟨⟨.int i t, .int i, e, ⟨t, rfl⟩, fun _ => .d (.int i)⟩, hd⟩
theorem gv_str {K : PySem.W.Frag} {mg : PySem.Str → Option Value} {x z : PySem.Str} (h : ∃ t, mg x = some (.str z t)) (hd : (x == ("__debug__" : PySem.Str)) = false) : Gvl K mg x (.d (.str z)) := by
  obtain ⟨t, e⟩ := h
  exact ⟨⟨.str z t, .str z, e, ⟨t, rfl⟩, fun _ => .d (.str z)⟩, hd⟩
theorem gv_ref {K : PySem.W.Frag} {mg : PySem.Str → Option Value} {x : PySem.Str} {a : Addr} (h : mg x = some (.ref a)) (hd : (x == ("__debug__" : PySem.Str)) = false) : Gvl K mg x (.v (.ref a)) := ⟨⟨.ref a, .ref a, h, rfl, fun _ => .v⟩, hd⟩
theorem strs_dq {K : PySem.W.Frag} {S : Hp} : ∀ zs : List PySem.Str, Sx.DqAll K S (zs.map V.str) (zs.map PyData.str)
  | [] => .nil
  | z :: zs => .cons (.str z) (strs_dq zs)
theorem gv_tup {K : PySem.W.Frag} {mg : PySem.Str → Option Value} {x : PySem.Str} {a : Addr} {zs : List PySem.Str} (h : mg x = some (.ref a)) (ht : ∀ H : Hp, SqT K H a (zs.map V.str)) (hz : zs ≠ []) (hd : (x == ("__debug__" : PySem.Str)) = false) : Gvl K mg x (.d (.tuple (zs.map PyData.str))) :=
  ⟨⟨.ref a, .ref a, h, rfl, fun S => .d (.tup (ht S) (strs_dq zs) (by cases zs with | nil => exact absurd rfl hz | cons _ _ => exact List.cons_ne_nil _ _))⟩, hd⟩
theorem kd_of {K : PySem.W.Frag} {w : World} {a : Addr} {x : PySem.Str} {v : V} (D : ∃ es n, KDict K w a es n) (h : ∃ u, PySem.W.nsIn K a x = some (some u) ∧ RelV v u) : KDct K w a x v := by
  obtain ⟨es, n, d⟩ := D
  obtain ⟨u, h1, h2⟩ := h
  exact ⟨es, n, u, d.at_, d.lit, h1, h2⟩
theorem run_init {K : PySem.W.Frag} (h : (match PySem.W.findCls K (.ref (He.ga K "Run")) (.type "type") "__init__" with
  | some (.val (.ref a)) => decide (a = He.ma K (He.ga K "Run") "__init__")
  | _ => false) = true) : PySem.W.findCls K (.ref (He.ga K "Run")) (.type "type") "__init__" = some (.val (.ref (He.ma K (He.ga K "Run") "__init__"))) := by
  split at h
  · rename_i a e
    rw [e, of_decide_eq_true h]
  · cases h
theorem facts {w : World} {K : PySem.W.Frag} {h : Heap} {mg : PySem.Str → Option Value} (X : K.In h) (G : h.Ns mainGlobals mg) (c : SaysM w K) : Fx w K mg := by
  obtain ⟨c, more⟩ := c
  have d := He.SaysT.d c
  obtain ⟨e1, ex⟩ := He.ba more
  obtain ⟨e2, ex⟩ := He.ba ex
  obtain ⟨q4, ex⟩ := He.ba ex
  obtain ⟨q3, e6⟩ := He.ba q4
  obtain ⟨q2, e5⟩ := He.ba q3
  obtain ⟨e3, e4⟩ := He.ba q2
  obtain ⟨x1, ex⟩ := He.ba ex
  obtain ⟨x2, x3⟩ := He.ba ex
  have kSHAPES : ∃ es n, KDict K w (He.ga K "SHAPES") es n := He.SaysT.tab c 0 (t := (fun K => He.ga K "SHAPES", ks_SHAPES)) rfl
  have kLOOKS : ∃ es n, KDict K w (He.ga K "LOOKS") es n := He.SaysT.tab c 1 (t := (fun K => He.ga K "LOOKS", ks_LOOKS)) rfl
  have kDEEDS : ∃ es n, KDict K w (He.ga K "DEEDS") es n := He.SaysT.tab c 2 (t := (fun K => He.ga K "DEEDS", ks_DEEDS)) rfl
  have kWAYS : ∃ es n, KDict K w (He.ga K "WAYS") es n := He.SaysT.tab c 3 (t := (fun K => He.ga K "WAYS", ks_WAYS)) rfl
  exact {
    b_isinstance := He.free_ok X G (d.fact 0 (f := .free "isinstance") rfl)
    b_len := He.free_ok X G (d.fact 1 (f := .free "len") rfl)
    b_all := He.free_ok X G (d.fact 2 (f := .free "all") rfl)
    b_range := He.free_ok X G (d.fact 3 (f := .free "range") rfl)
    b_sorted := He.free_ok X G (d.fact 4 (f := .free "sorted") rfl)
    b_sum := He.free_ok X G (d.fact 5 (f := .free "sum") rfl)
    b_enumerate := He.free_ok X G (d.fact 6 (f := .free "enumerate") rfl)
    b_zip := He.free_ok X G (d.fact 7 (f := .free "zip") rfl)
    b_max := He.free_ok X G (d.fact 8 (f := .free "max") rfl)
    b_dict := He.free_ok X G (d.fact 9 (f := .free "dict") rfl)
    b_tuple := He.free_ok X G (d.fact 10 (f := .free "tuple") rfl)
    b_list := He.free_ok X G (d.fact 11 (f := .free "list") rfl)
    b_int := He.free_ok X G (d.fact 12 (f := .free "int") rfl)
    b_str := He.free_ok X G (d.fact 13 (f := .free "str") rfl)
    b_bool := He.free_ok X G (d.fact 14 (f := .free "bool") rfl)
    g_MOST_LETTERS := gv_int (He.int_ok X G (d.fact 15 (f := .int "MOST_LETTERS" 8) rfl)) (by decide)
    g_MOST_SIZE := gv_int (He.int_ok X G (d.fact 16 (f := .int "MOST_SIZE" 12) rfl)) (by decide)
    g_MOST_NUMBER := gv_int (He.int_ok X G (d.fact 17 (f := .int "MOST_NUMBER" 99) rfl)) (by decide)
    g_LARGE_rows := gv_int (He.int_ok X G (d.fact 18 (f := .int "LARGE_rows" 1000000000000) rfl)) (by decide)
    g_LARGE_runs := gv_int (He.int_ok X G (d.fact 19 (f := .int "LARGE_runs" 1000000000000) rfl)) (by decide)
    g_MOST_ROWS := gv_int (He.int_ok X G (d.fact 20 (f := .int "MOST_ROWS" 12) rfl)) (by decide)
    g_MOST_NODES := gv_int (He.int_ok X G (d.fact 21 (f := .int "MOST_NODES" 40) rfl)) (by decide)
    g_MOST_ABOVE := gv_int (He.int_ok X G (d.fact 22 (f := .int "MOST_ABOVE" 7) rfl)) (by decide)
    g_MOST_NUMBERS := gv_int (He.int_ok X G (d.fact 23 (f := .int "MOST_NUMBERS" 1000) rfl)) (by decide)
    g_LETTERS := gv_str (He.str_ok X G (d.fact 24 (f := .str "LETTERS" "abcdefghijklmnopqrstuvwxyz") rfl)) (by decide)
    g_WHOLE := gv_tup (zs := ["whole"]) (He.glo_ok X G (d.fact 25 (f := .glo "WHOLE") rfl)) (fun H => He.tupB_ok e1 H) (List.cons_ne_nil _ _) (by decide)
    g_RECKONED := gv_tup (zs := ["plus", "minus", "times", "less", "same"]) (He.glo_ok X G (d.fact 26 (f := .glo "RECKONED") rfl)) (fun H => He.tupB_ok e2 H) (List.cons_ne_nil _ _) (by decide)
    g_SHAPES := gv_ref (He.glo_ok X G (d.fact 27 (f := .glo "SHAPES") rfl)) (by decide)
    g_LOOKS := gv_ref (He.glo_ok X G (d.fact 28 (f := .glo "LOOKS") rfl)) (by decide)
    g_DEEDS := gv_ref (He.glo_ok X G (d.fact 29 (f := .glo "DEEDS") rfl)) (by decide)
    g_WAYS := gv_ref (He.glo_ok X G (d.fact 30 (f := .glo "WAYS") rfl)) (by decide)
    f_is_whole := ⟨He.glo_ok X G (d.fact 31 (f := .glo "is_whole") rfl), d.def_ 0 (d := ⟨("is_whole", none), "is_whole", "is_whole", defArgs (top 14), defBody (top 14), defScope (top 14), [], []⟩) rfl⟩
    f_is_name := ⟨He.glo_ok X G (d.fact 32 (f := .glo "is_name") rfl), d.def_ 1 (d := ⟨("is_name", none), "is_name", "is_name", defArgs (top 15), defBody (top 15), defScope (top 15), [], []⟩) rfl⟩
    f_is_length := ⟨He.glo_ok X G (d.fact 33 (f := .glo "is_length") rfl), d.def_ 2 (d := ⟨("is_length", none), "is_length", "is_length", defArgs (top 17), defBody (top 17), defScope (top 17), [], []⟩) rfl⟩
    f_of_number := ⟨He.glo_ok X G (d.fact 34 (f := .glo "of_number") rfl), d.def_ 3 (d := ⟨("of_number", none), "of_number", "of_number", defArgs (top 18), defBody (top 18), defScope (top 18), [], []⟩) rfl⟩
    f_added := ⟨He.glo_ok X G (d.fact 35 (f := .glo "added") rfl), d.def_ 4 (d := ⟨("added", none), "added", "added", defArgs (top 20), defBody (top 20), defScope (top 20), [], []⟩) rfl⟩
    f_less := ⟨He.glo_ok X G (d.fact 36 (f := .glo "less") rfl), d.def_ 5 (d := ⟨("less", none), "less", "less", defArgs (top 22), defBody (top 22), defScope (top 22), [], []⟩) rfl⟩
    f_worth := ⟨He.glo_ok X G (d.fact 37 (f := .glo "worth") rfl), d.def_ 6 (d := ⟨("worth", none), "worth", "worth", defArgs (top 24), defBody (top 24), defScope (top 24), [], []⟩) rfl⟩
    f_names_of := ⟨He.glo_ok X G (d.fact 38 (f := .glo "names_of") rfl), d.def_ 7 (d := ⟨("names_of", none), "names_of", "names_of", defArgs (top 25), defBody (top 25), defScope (top 25), [], []⟩) rfl⟩
    f_noughts := ⟨He.glo_ok X G (d.fact 39 (f := .glo "noughts") rfl), d.def_ 8 (d := ⟨("noughts", none), "noughts", "noughts", defArgs (top 26), defBody (top 26), defScope (top 26), [], []⟩) rfl⟩
    f_exceeding := ⟨He.glo_ok X G (d.fact 40 (f := .glo "exceeding") rfl), d.def_ 9 (d := ⟨("exceeding", none), "exceeding", "exceeding", defArgs (top 28), defBody (top 28), defScope (top 28), [], []⟩) rfl⟩
    f_is_small := ⟨He.glo_ok X G (d.fact 41 (f := .glo "is_small") rfl), d.def_ 10 (d := ⟨("is_small", none), "is_small", "is_small", defArgs (top 33), defBody (top 33), defScope (top 33), [], []⟩) rfl⟩
    f_parts_told := ⟨He.glo_ok X G (d.fact 42 (f := .glo "parts_told") rfl), d.def_ 11 (d := ⟨("parts_told", none), "parts_told", "parts_told", defArgs (top 34), defBody (top 34), defScope (top 34), [], []⟩) rfl⟩
    f_is_kind := ⟨He.glo_ok X G (d.fact 43 (f := .glo "is_kind") rfl), d.def_ 12 (d := ⟨("is_kind", none), "is_kind", "is_kind", defArgs (top 35), defBody (top 35), defScope (top 35), [], []⟩) rfl⟩
    f_within := ⟨He.glo_ok X G (d.fact 44 (f := .glo "within") rfl), d.def_ 13 (d := ⟨("within", none), "within", "within", defArgs (top 36), defBody (top 36), defScope (top 36), [], []⟩) rfl⟩
    f_has_length := ⟨He.glo_ok X G (d.fact 45 (f := .glo "has_length") rfl), d.def_ 14 (d := ⟨("has_length", none), "has_length", "has_length", defArgs (top 37), defBody (top 37), defScope (top 37), [], []⟩) rfl⟩
    f_held := ⟨He.glo_ok X G (d.fact 46 (f := .glo "held") rfl), d.def_ 15 (d := ⟨("held", none), "held", "held", defArgs (top 42), defBody (top 42), defScope (top 42), [], []⟩) rfl⟩
    f_is_number := ⟨He.glo_ok X G (d.fact 47 (f := .glo "is_number") rfl), d.def_ 16 (d := ⟨("is_number", none), "is_number", "is_number", defArgs (top 51), defBody (top 51), defScope (top 51), [], []⟩) rfl⟩
    f_is_reckoned := ⟨He.glo_ok X G (d.fact 48 (f := .glo "is_reckoned") rfl), d.def_ 17 (d := ⟨("is_reckoned", none), "is_reckoned", "is_reckoned", defArgs (top 53), defBody (top 53), defScope (top 53), [], []⟩) rfl⟩
    f_parts_of := ⟨He.glo_ok X G (d.fact 49 (f := .glo "parts_of") rfl), d.def_ 18 (d := ⟨("parts_of", none), "parts_of", "parts_of", defArgs (top 56), defBody (top 56), defScope (top 56), [], []⟩) rfl⟩
    f_is_node := ⟨He.glo_ok X G (d.fact 50 (f := .glo "is_node") rfl), d.def_ 19 (d := ⟨("is_node", none), "is_node", "is_node", defArgs (top 57), defBody (top 57), defScope (top 57), [], []⟩) rfl⟩
    f_is_expression := ⟨He.glo_ok X G (d.fact 51 (f := .glo "is_expression") rfl), d.def_ 20 (d := ⟨("is_expression", none), "is_expression", "is_expression", defArgs (top 58), defBody (top 58), defScope (top 58), [], []⟩) rfl⟩
    f_is_row := ⟨He.glo_ok X G (d.fact 52 (f := .glo "is_row") rfl), d.def_ 21 (d := ⟨("is_row", none), "is_row", "is_row", defArgs (top 60), defBody (top 60), defScope (top 60), [], []⟩) rfl⟩
    f_checked := ⟨He.glo_ok X G (d.fact 53 (f := .glo "checked") rfl), d.def_ 22 (d := ⟨("checked", none), "checked", "checked", defArgs (top 64), defBody (top 64), defScope (top 64), [], []⟩) rfl⟩
    f_reckoned := ⟨He.glo_ok X G (d.fact 54 (f := .glo "reckoned") rfl), d.def_ 23 (d := ⟨("reckoned", none), "reckoned", "reckoned", defArgs (top 70), defBody (top 70), defScope (top 70), [], []⟩) rfl⟩
    f_coded := ⟨He.glo_ok X G (d.fact 55 (f := .glo "coded") rfl), d.def_ 24 (d := ⟨("coded", none), "coded", "coded", defArgs (top 74), defBody (top 74), defScope (top 74), [], []⟩) rfl⟩
    f_with_value := ⟨He.glo_ok X G (d.fact 56 (f := .glo "with_value") rfl), d.def_ 25 (d := ⟨("with_value", none), "with_value", "with_value", defArgs (top 75), defBody (top 75), defScope (top 75), [], []⟩) rfl⟩
    f_heaviness := ⟨He.glo_ok X G (d.fact 57 (f := .glo "heaviness") rfl), d.def_ 26 (d := ⟨("heaviness", none), "heaviness", "heaviness", defArgs (top 76), defBody (top 76), defScope (top 76), [], []⟩) rfl⟩
    f_number_come := ⟨He.glo_ok X G (d.fact 58 (f := .glo "number_come") rfl), d.def_ 27 (d := ⟨("number_come", none), "number_come", "number_come", defArgs (top 77), defBody (top 77), defScope (top 77), [], []⟩) rfl⟩
    f_name_come := ⟨He.glo_ok X G (d.fact 59 (f := .glo "name_come") rfl), d.def_ 28 (d := ⟨("name_come", none), "name_come", "name_come", defArgs (top 78), defBody (top 78), defScope (top 78), [], []⟩) rfl⟩
    f_length_come := ⟨He.glo_ok X G (d.fact 60 (f := .glo "length_come") rfl), d.def_ 29 (d := ⟨("length_come", none), "length_come", "length_come", defArgs (top 79), defBody (top 79), defScope (top 79), [], []⟩) rfl⟩
    f_reckon_come := ⟨He.glo_ok X G (d.fact 61 (f := .glo "reckon_come") rfl), d.def_ 30 (d := ⟨("reckon_come", none), "reckon_come", "reckon_come", defArgs (top 80), defBody (top 80), defScope (top 80), [], []⟩) rfl⟩
    f_if_come := ⟨He.glo_ok X G (d.fact 62 (f := .glo "if_come") rfl), d.def_ 31 (d := ⟨("if_come", none), "if_come", "if_come", defArgs (top 81), defBody (top 81), defScope (top 81), [], []⟩) rfl⟩
    f_let_come := ⟨He.glo_ok X G (d.fact 63 (f := .glo "let_come") rfl), d.def_ 32 (d := ⟨("let_come", none), "let_come", "let_come", defArgs (top 82), defBody (top 82), defScope (top 82), [], []⟩) rfl⟩
    f_value_come := ⟨He.glo_ok X G (d.fact 64 (f := .glo "value_come") rfl), d.def_ 33 (d := ⟨("value_come", none), "value_come", "value_come", defArgs (top 95), defBody (top 95), defScope (top 95), [], []⟩) rfl⟩
    f_up_come := ⟨He.glo_ok X G (d.fact 65 (f := .glo "up_come") rfl), d.def_ 34 (d := ⟨("up_come", none), "up_come", "up_come", defArgs (top 96), defBody (top 96), defScope (top 96), [], []⟩) rfl⟩
    f_wide_come := ⟨He.glo_ok X G (d.fact 66 (f := .glo "wide_come") rfl), d.def_ 35 (d := ⟨("wide_come", none), "wide_come", "wide_come", defArgs (top 97), defBody (top 97), defScope (top 97), [], []⟩) rfl⟩
    f_mirror_come := ⟨He.glo_ok X G (d.fact 67 (f := .glo "mirror_come") rfl), d.def_ 36 (d := ⟨("mirror_come", none), "mirror_come", "mirror_come", defArgs (top 98), defBody (top 98), defScope (top 98), [], []⟩) rfl⟩
    f_fork_come := ⟨He.glo_ok X G (d.fact 68 (f := .glo "fork_come") rfl), d.def_ 37 (d := ⟨("fork_come", none), "fork_come", "fork_come", defArgs (top 99), defBody (top 99), defScope (top 99), [], []⟩) rfl⟩
    f_when_come := ⟨He.glo_ok X G (d.fact 69 (f := .glo "when_come") rfl), d.def_ 38 (d := ⟨("when_come", none), "when_come", "when_come", defArgs (top 100), defBody (top 100), defScope (top 100), [], []⟩) rfl⟩
    f_with_name := ⟨He.glo_ok X G (d.fact 70 (f := .glo "with_name") rfl), d.def_ 39 (d := ⟨("with_name", none), "with_name", "with_name", defArgs (top 113), defBody (top 113), defScope (top 113), [], []⟩) rfl⟩
    f_whole_kind := ⟨He.glo_ok X G (d.fact 71 (f := .glo "whole_kind") rfl), d.def_ 40 (d := ⟨("whole_kind", none), "whole_kind", "whole_kind", defArgs (top 115), defBody (top 115), defScope (top 115), [], []⟩) rfl⟩
    f_length_kind := ⟨He.glo_ok X G (d.fact 72 (f := .glo "length_kind") rfl), d.def_ 41 (d := ⟨("length_kind", none), "length_kind", "length_kind", defArgs (top 116), defBody (top 116), defScope (top 116), [], []⟩) rfl⟩
    f_name_kind := ⟨He.glo_ok X G (d.fact 73 (f := .glo "name_kind") rfl), d.def_ 42 (d := ⟨("name_kind", none), "name_kind", "name_kind", defArgs (top 117), defBody (top 117), defScope (top 117), [], []⟩) rfl⟩
    f_reckon_kind := ⟨He.glo_ok X G (d.fact 74 (f := .glo "reckon_kind") rfl), d.def_ 43 (d := ⟨("reckon_kind", none), "reckon_kind", "reckon_kind", defArgs (top 118), defBody (top 118), defScope (top 118), [], []⟩) rfl⟩
    f_if_kind := ⟨He.glo_ok X G (d.fact 75 (f := .glo "if_kind") rfl), d.def_ 44 (d := ⟨("if_kind", none), "if_kind", "if_kind", defArgs (top 119), defBody (top 119), defScope (top 119), [], []⟩) rfl⟩
    f_let_kind := ⟨He.glo_ok X G (d.fact 76 (f := .glo "let_kind") rfl), d.def_ 45 (d := ⟨("let_kind", none), "let_kind", "let_kind", defArgs (top 120), defBody (top 120), defScope (top 120), [], []⟩) rfl⟩
    f_place_kind := ⟨He.glo_ok X G (d.fact 77 (f := .glo "place_kind") rfl), d.def_ 46 (d := ⟨("place_kind", none), "place_kind", "place_kind", defArgs (top 132), defBody (top 132), defScope (top 132), [], []⟩) rfl⟩
    f_value_kind := ⟨He.glo_ok X G (d.fact 78 (f := .glo "value_kind") rfl), d.def_ 47 (d := ⟨("value_kind", none), "value_kind", "value_kind", defArgs (top 133), defBody (top 133), defScope (top 133), [], []⟩) rfl⟩
    f_up_kind := ⟨He.glo_ok X G (d.fact 79 (f := .glo "up_kind") rfl), d.def_ 48 (d := ⟨("up_kind", none), "up_kind", "up_kind", defArgs (top 134), defBody (top 134), defScope (top 134), [], []⟩) rfl⟩
    f_wide_kind := ⟨He.glo_ok X G (d.fact 80 (f := .glo "wide_kind") rfl), d.def_ 49 (d := ⟨("wide_kind", none), "wide_kind", "wide_kind", defArgs (top 135), defBody (top 135), defScope (top 135), [], []⟩) rfl⟩
    f_mirror_kind := ⟨He.glo_ok X G (d.fact 81 (f := .glo "mirror_kind") rfl), d.def_ 50 (d := ⟨("mirror_kind", none), "mirror_kind", "mirror_kind", defArgs (top 136), defBody (top 136), defScope (top 136), [], []⟩) rfl⟩
    f_fork_kind := ⟨He.glo_ok X G (d.fact 82 (f := .glo "fork_kind") rfl), d.def_ 51 (d := ⟨("fork_kind", none), "fork_kind", "fork_kind", defArgs (top 137), defBody (top 137), defScope (top 137), [], []⟩) rfl⟩
    f_when_kind := ⟨He.glo_ok X G (d.fact 83 (f := .glo "when_kind") rfl), d.def_ 52 (d := ⟨("when_kind", none), "when_kind", "when_kind", defArgs (top 138), defBody (top 138), defScope (top 138), [], []⟩) rfl⟩
    f__law_draws := ⟨He.glo_ok X G (d.fact 84 (f := .glo "_law_draws") rfl), d.def_ 53 (d := ⟨("_law_draws", none), "_law_draws", "_law_draws", defArgs (top 144), defBody (top 144), defScope (top 144), [], []⟩) rfl⟩
    f__law_next := ⟨He.glo_ok X G (d.fact 85 (f := .glo "_law_next") rfl), d.def_ 54 (d := ⟨("_law_next", none), "_law_next", "_law_next", defArgs (top 145), defBody (top 145), defScope (top 145), [], []⟩) rfl⟩
    f__law_place := ⟨He.glo_ok X G (d.fact 86 (f := .glo "_law_place") rfl), d.def_ 55 (d := ⟨("_law_place", none), "_law_place", "_law_place", defArgs (top 146), defBody (top 146), defScope (top 146), [], []⟩) rfl⟩
    f__law_reckoned := ⟨He.glo_ok X G (d.fact 87 (f := .glo "_law_reckoned") rfl), d.def_ 56 (d := ⟨("_law_reckoned", none), "_law_reckoned", "_law_reckoned", defArgs (top 147), defBody (top 147), defScope (top 147), [], []⟩) rfl⟩
    f__law_side_deed := ⟨He.glo_ok X G (d.fact 88 (f := .glo "_law_side_deed") rfl), d.def_ 57 (d := ⟨("_law_side_deed", none), "_law_side_deed", "_law_side_deed", defArgs (top 148), defBody (top 148), defScope (top 148), [], []⟩) rfl⟩
    f__law_deed := ⟨He.glo_ok X G (d.fact 89 (f := .glo "_law_deed") rfl), d.def_ 58 (d := ⟨("_law_deed", none), "_law_deed", "_law_deed", defArgs (top 149), defBody (top 149), defScope (top 149), [], []⟩) rfl⟩
    f_law := ⟨He.glo_ok X G (d.fact 90 (f := .glo "law") rfl), d.def_ 59 (d := ⟨("law", none), "law", "law", defArgs (top 150), defBody (top 150), defScope (top 150), [], []⟩) rfl⟩
    m_Run___init__ := ⟨He.meth_ok (d.fact 91 (f := .meth "Run" "__init__") rfl), d.def_ 60 (d := ⟨("Run", some "__init__"), "__init__", "Run.__init__", defArgs (inClass (top 71) 0), defBody (inClass (top 71) 0), defScope (inClass (top 71) 0), [], []⟩) rfl⟩
    m_PlainRun___init__ := ⟨He.meth_ok (d.fact 92 (f := .meth "PlainRun" "__init__") rfl), d.def_ 61 (d := ⟨("PlainRun", some "__init__"), "__init__", "PlainRun.__init__", defArgs (inClass (top 104) 0), defBody (inClass (top 104) 0), defScope (inClass (top 104) 0), [], []⟩) rfl⟩
    m_PlainRun_come := ⟨He.meth_ok (d.fact 93 (f := .meth "PlainRun" "come") rfl), d.def_ 62 (d := ⟨("PlainRun", some "come"), "come", "PlainRun.come", defArgs (inClass (top 104) 1), defBody (inClass (top 104) 1), defScope (inClass (top 104) 1), [], []⟩) rfl⟩
    m_PlainRun_asked := ⟨He.meth_ok (d.fact 94 (f := .meth "PlainRun" "asked") rfl), d.def_ 63 (d := ⟨("PlainRun", some "asked"), "asked", "PlainRun.asked", defArgs (inClass (top 104) 2), defBody (inClass (top 104) 2), defScope (inClass (top 104) 2), [], []⟩) rfl⟩
    m_Finder___init__ := ⟨He.meth_ok (d.fact 95 (f := .meth "Finder" "__init__") rfl), d.def_ 64 (d := ⟨("Finder", some "__init__"), "__init__", "Finder.__init__", defArgs (inClass (top 114) 0), defBody (inClass (top 114) 0), defScope (inClass (top 114) 0), [], []⟩) rfl⟩
    m_Finder_kind_of := ⟨He.meth_ok (d.fact 96 (f := .meth "Finder" "kind_of") rfl), d.def_ 65 (d := ⟨("Finder", some "kind_of"), "kind_of", "Finder.kind_of", defArgs (inClass (top 114) 1), defBody (inClass (top 114) 1), defScope (inClass (top 114) 1), [], []⟩) rfl⟩
    m_Finder_own := ⟨He.meth_ok (d.fact 97 (f := .meth "Finder" "own") rfl), d.def_ 66 (d := ⟨("Finder", some "own"), "own", "Finder.own", defArgs (inClass (top 114) 2), defBody (inClass (top 114) 2), defScope (inClass (top 114) 2), [], []⟩) rfl⟩
    m_Finder_wanted := ⟨He.meth_ok (d.fact 98 (f := .meth "Finder" "wanted") rfl), d.def_ 67 (d := ⟨("Finder", some "wanted"), "wanted", "Finder.wanted", defArgs (inClass (top 114) 3), defBody (inClass (top 114) 3), defScope (inClass (top 114) 3), [], []⟩) rfl⟩
    m_Finder_within := ⟨He.meth_ok (d.fact 99 (f := .meth "Finder" "within") rfl), d.def_ 68 (d := ⟨("Finder", some "within"), "within", "Finder.within", defArgs (inClass (top 114) 4), defBody (inClass (top 114) 4), defScope (inClass (top 114) 4), [], []⟩) rfl⟩
    m_Finder_same := ⟨He.meth_ok (d.fact 100 (f := .meth "Finder" "same") rfl), d.def_ 69 (d := ⟨("Finder", some "same"), "same", "Finder.same", defArgs (inClass (top 114) 6), defBody (inClass (top 114) 6), defScope (inClass (top 114) 6), [], []⟩) rfl⟩
    m_Found___init__ := ⟨He.meth_ok (d.fact 101 (f := .meth "Found" "__init__") rfl), d.def_ 70 (d := ⟨("Found", some "__init__"), "__init__", "Found.__init__", defArgs (inClass (top 142) 0), defBody (inClass (top 142) 0), defScope (inClass (top 142) 0), [], []⟩) rfl⟩
    m_Found_rows := ⟨He.meth_ok (d.fact 102 (f := .meth "Found" "rows") rfl), d.def_ 71 (d := ⟨("Found", some "rows"), "rows", "Found.rows", defArgs (inClass (top 142) 1), defBody (inClass (top 142) 1), defScope (inClass (top 142) 1), [], []⟩) rfl⟩
    m_Found_kind_at := ⟨He.meth_ok (d.fact 103 (f := .meth "Found" "kind_at") rfl), d.def_ 72 (d := ⟨("Found", some "kind_at"), "kind_at", "Found.kind_at", defArgs (inClass (top 142) 3), defBody (inClass (top 142) 3), defScope (inClass (top 142) 3), [], []⟩) rfl⟩
    m_PlainRun_begin := ⟨He.meth_ok (d.fact 104 (f := .meth "PlainRun" "begin") rfl), d.def_ 73 (d := ⟨("PlainRun", some "begin"), "begin", "Run.begin", defArgs (inClass (top 71) 1), defBody (inClass (top 71) 1), defScope (inClass (top 71) 1), [], []⟩) rfl⟩
    m_PlainRun_weighed := ⟨He.meth_ok (d.fact 105 (f := .meth "PlainRun" "weighed") rfl), d.def_ 74 (d := ⟨("PlainRun", some "weighed"), "weighed", "Run.weighed", defArgs (inClass (top 71) 3), defBody (inClass (top 71) 3), defScope (inClass (top 71) 3), [], []⟩) rfl⟩
    c_Run := ⟨He.glo_ok X G (d.fact 106 (f := .glo "Run") rfl), ⟨x1, He.eqO_ok x2⟩, run_init x3⟩
    c_PlainRun := ⟨He.glo_ok X G (d.fact 107 (f := .glo "PlainRun") rfl), He.mkr_ok (d.fact 111 (f := .mkr "PlainRun") rfl), He.cls_ok (d.fact 110 (f := .cls "PlainRun") rfl)⟩
    n_PlainRun_steps := He.noat_ok (d.fact 112 (f := .noat "PlainRun" "steps") rfl)
    n_PlainRun_found := He.noat_ok (d.fact 113 (f := .noat "PlainRun" "found") rfl)
    n_PlainRun_defs := He.noat_ok (d.fact 114 (f := .noat "PlainRun" "defs") rfl)
    n_PlainRun_asks := He.noat_ok (d.fact 115 (f := .noat "PlainRun" "asks") rfl)
    c_Finder := ⟨He.glo_ok X G (d.fact 108 (f := .glo "Finder") rfl), He.mkr_ok (d.fact 117 (f := .mkr "Finder") rfl), He.cls_ok (d.fact 116 (f := .cls "Finder") rfl)⟩
    n_Finder_finds := He.noat_ok (d.fact 118 (f := .noat "Finder" "finds") rfl)
    n_Finder_row := He.noat_ok (d.fact 119 (f := .noat "Finder" "row") rfl)
    n_Finder_names := He.noat_ok (d.fact 120 (f := .noat "Finder" "names") rfl)
    n_Finder_count := He.noat_ok (d.fact 121 (f := .noat "Finder" "count") rfl)
    c_Found := ⟨He.glo_ok X G (d.fact 109 (f := .glo "Found") rfl), He.mkr_ok (d.fact 123 (f := .mkr "Found") rfl), He.cls_ok (d.fact 122 (f := .cls "Found") rfl)⟩
    n_Found_lines := He.noat_ok (d.fact 124 (f := .noat "Found" "lines") rfl)
    n_Found_defs := He.noat_ok (d.fact 125 (f := .noat "Found" "defs") rfl)
    n_Found_kinds := He.noat_ok (d.fact 126 (f := .noat "Found" "kinds") rfl)
    n_Found_binds := He.noat_ok (d.fact 127 (f := .noat "Found" "binds") rfl)
    t_SHAPES_number := kd_of kSHAPES (He.valsB_ok e3 (q := ("number", .str "n")) (List.mem_of_getElem? (i := 0) rfl))
    t_SHAPES_name := kd_of kSHAPES (He.valsB_ok e3 (q := ("name", .str "x")) (List.mem_of_getElem? (i := 1) rfl))
    t_SHAPES_length := kd_of kSHAPES (He.valsB_ok e3 (q := ("length", .str "l")) (List.mem_of_getElem? (i := 2) rfl))
    t_SHAPES_reckon := kd_of kSHAPES (He.valsB_ok e3 (q := ("reckon", .str "wee")) (List.mem_of_getElem? (i := 3) rfl))
    t_SHAPES_if := kd_of kSHAPES (He.valsB_ok e3 (q := ("if", .str "eee")) (List.mem_of_getElem? (i := 4) rfl))
    t_SHAPES_let := kd_of kSHAPES (He.valsB_ok e3 (q := ("let", .str "xee")) (List.mem_of_getElem? (i := 5) rfl))
    t_SHAPES_place := kd_of kSHAPES (He.valsB_ok e3 (q := ("place", .str "ll")) (List.mem_of_getElem? (i := 6) rfl))
    t_SHAPES_value := kd_of kSHAPES (He.valsB_ok e3 (q := ("value", .str "e")) (List.mem_of_getElem? (i := 7) rfl))
    t_SHAPES_up := kd_of kSHAPES (He.valsB_ok e3 (q := ("up", .str "le")) (List.mem_of_getElem? (i := 8) rfl))
    t_SHAPES_wide := kd_of kSHAPES (He.valsB_ok e3 (q := ("wide", .str "le")) (List.mem_of_getElem? (i := 9) rfl))
    t_SHAPES_mirror := kd_of kSHAPES (He.valsB_ok e3 (q := ("mirror", .str "e")) (List.mem_of_getElem? (i := 10) rfl))
    t_SHAPES_fork := kd_of kSHAPES (He.valsB_ok e3 (q := ("fork", .str "lexee")) (List.mem_of_getElem? (i := 11) rfl))
    t_SHAPES_when := kd_of kSHAPES (He.valsB_ok e3 (q := ("when", .str "elxee")) (List.mem_of_getElem? (i := 12) rfl))
    t_LOOKS_n := kd_of kLOOKS (He.valsB_ok e4 (q := ("n", .glo "is_number")) (List.mem_of_getElem? (i := 0) rfl))
    t_LOOKS_x := kd_of kLOOKS (He.valsB_ok e4 (q := ("x", .glo "is_name")) (List.mem_of_getElem? (i := 1) rfl))
    t_LOOKS_l := kd_of kLOOKS (He.valsB_ok e4 (q := ("l", .glo "is_small")) (List.mem_of_getElem? (i := 2) rfl))
    t_LOOKS_w := kd_of kLOOKS (He.valsB_ok e4 (q := ("w", .glo "is_reckoned")) (List.mem_of_getElem? (i := 3) rfl))
    t_DEEDS_number := kd_of kDEEDS (He.valsB_ok e5 (q := ("number", .glo "whole_kind")) (List.mem_of_getElem? (i := 0) rfl))
    t_DEEDS_name := kd_of kDEEDS (He.valsB_ok e5 (q := ("name", .glo "name_kind")) (List.mem_of_getElem? (i := 1) rfl))
    t_DEEDS_length := kd_of kDEEDS (He.valsB_ok e5 (q := ("length", .glo "length_kind")) (List.mem_of_getElem? (i := 2) rfl))
    t_DEEDS_reckon := kd_of kDEEDS (He.valsB_ok e5 (q := ("reckon", .glo "reckon_kind")) (List.mem_of_getElem? (i := 3) rfl))
    t_DEEDS_if := kd_of kDEEDS (He.valsB_ok e5 (q := ("if", .glo "if_kind")) (List.mem_of_getElem? (i := 4) rfl))
    t_DEEDS_let := kd_of kDEEDS (He.valsB_ok e5 (q := ("let", .glo "let_kind")) (List.mem_of_getElem? (i := 5) rfl))
    t_DEEDS_place := kd_of kDEEDS (He.valsB_ok e5 (q := ("place", .glo "place_kind")) (List.mem_of_getElem? (i := 6) rfl))
    t_DEEDS_value := kd_of kDEEDS (He.valsB_ok e5 (q := ("value", .glo "value_kind")) (List.mem_of_getElem? (i := 7) rfl))
    t_DEEDS_up := kd_of kDEEDS (He.valsB_ok e5 (q := ("up", .glo "up_kind")) (List.mem_of_getElem? (i := 8) rfl))
    t_DEEDS_wide := kd_of kDEEDS (He.valsB_ok e5 (q := ("wide", .glo "wide_kind")) (List.mem_of_getElem? (i := 9) rfl))
    t_DEEDS_mirror := kd_of kDEEDS (He.valsB_ok e5 (q := ("mirror", .glo "mirror_kind")) (List.mem_of_getElem? (i := 10) rfl))
    t_DEEDS_fork := kd_of kDEEDS (He.valsB_ok e5 (q := ("fork", .glo "fork_kind")) (List.mem_of_getElem? (i := 11) rfl))
    t_DEEDS_when := kd_of kDEEDS (He.valsB_ok e5 (q := ("when", .glo "when_kind")) (List.mem_of_getElem? (i := 12) rfl))
    t_WAYS_number := kd_of kWAYS (He.valsB_ok e6 (q := ("number", .glo "number_come")) (List.mem_of_getElem? (i := 0) rfl))
    t_WAYS_name := kd_of kWAYS (He.valsB_ok e6 (q := ("name", .glo "name_come")) (List.mem_of_getElem? (i := 1) rfl))
    t_WAYS_length := kd_of kWAYS (He.valsB_ok e6 (q := ("length", .glo "length_come")) (List.mem_of_getElem? (i := 2) rfl))
    t_WAYS_reckon := kd_of kWAYS (He.valsB_ok e6 (q := ("reckon", .glo "reckon_come")) (List.mem_of_getElem? (i := 3) rfl))
    t_WAYS_if := kd_of kWAYS (He.valsB_ok e6 (q := ("if", .glo "if_come")) (List.mem_of_getElem? (i := 4) rfl))
    t_WAYS_let := kd_of kWAYS (He.valsB_ok e6 (q := ("let", .glo "let_come")) (List.mem_of_getElem? (i := 5) rfl))
    t_WAYS_place := kd_of kWAYS (He.valsB_ok e6 (q := ("place", .glo "length_come")) (List.mem_of_getElem? (i := 6) rfl))
    t_WAYS_value := kd_of kWAYS (He.valsB_ok e6 (q := ("value", .glo "value_come")) (List.mem_of_getElem? (i := 7) rfl))
    t_WAYS_up := kd_of kWAYS (He.valsB_ok e6 (q := ("up", .glo "up_come")) (List.mem_of_getElem? (i := 8) rfl))
    t_WAYS_wide := kd_of kWAYS (He.valsB_ok e6 (q := ("wide", .glo "wide_come")) (List.mem_of_getElem? (i := 9) rfl))
    t_WAYS_mirror := kd_of kWAYS (He.valsB_ok e6 (q := ("mirror", .glo "mirror_come")) (List.mem_of_getElem? (i := 10) rfl))
    t_WAYS_fork := kd_of kWAYS (He.valsB_ok e6 (q := ("fork", .glo "fork_come")) (List.mem_of_getElem? (i := 11) rfl))
    t_WAYS_when := kd_of kWAYS (He.valsB_ok e6 (q := ("when", .glo "when_come")) (List.mem_of_getElem? (i := 12) rfl))
    l_SHAPES := (let ⟨_, _, q⟩ := kSHAPES; q.low)
    l_LOOKS := (let ⟨_, _, q⟩ := kLOOKS; q.low)
    l_DEEDS := (let ⟨_, _, q⟩ := kDEEDS; q.low)
    l_WAYS := (let ⟨_, _, q⟩ := kWAYS; q.low)
  }
end HeadB
namespace Sx
open PySem PySem.Spec PyProof.Rows L2
theorem ok_law {P : Program} {w : World} {K : PySem.W.Frag} {mg : Str → Option Value} {base : Heap} (E : Fx w K mg) {fd : FuncData} (F : FunD K "law" "law" (defArgs (top 150)) (defBody (top 150)) (defScope (top 150)) [] [] (He.ga K "law") fd) : FnOk P w K mg base CX0 51 (He.ga K "law") fd ["_law_script"] (spT K T_law) := by
  refine def_okF (N := ["_law_script", "_law_asks", "_law_dues", "_law_begin", "_law_draws_here", "_law_first", "_law_now", "_law_told", "_law_k", "_law_deed_here", "_law_run", "_law_due", "_law_found"]) F ⟨rfl, rfl, rfl, by decide +kernel, rfl, by decide +kernel, by decide +kernel⟩ (fun ys M k h => ?_) (fun X C A ys M k h => w_law E C A h)
  obtain ⟨_, h, _⟩ := Stop.go h
  rw [h]
  rfl
theorem ints_dq {K : PySem.W.Frag} {S : Hp} : ∀ ns : List Int, DqAll K S (ns.map V.int) (ns.map PyData.int)
  | [] => .nil
  | n :: ns => .cons (.int n) (ints_dq ns)
theorem sp_law {K : PySem.W.Frag} {H : Hp} {a : Addr} {ns : List Int} {X : XK} (hl : ns.length ≤ 63) (h : SqL K H a (ns.map V.int)) : spT K T_law [.ref a] H (fun v _ => v = .bl true) X :=
  ⟨[.d (.list (ns.map PyData.int))], H, fun _ => none, fun y _ => y = .d (.bool true), .mk ⟨ns, rfl, hl, fun _ => rfl⟩, ⟨Same.refl H, fun _ _ q => by cases q⟩, .cons (.d (.lst h (ints_dq ns))) .nil, fun v y M' S' H' hk e sp is => by
    subst hk
    exact is_bool is⟩
end Sx
namespace HeadB
open PySem PySem.W PySem.Calls PyProof.Rows
theorem law_name : (HandSHeadRun.topDef R.prog 150).name = ("law" : PySem.Str) := by kernel_rfl
theorem walked : WalkO qv names (XL qv []) hk.says R.toRowW (HandSHeadRun.topDef R.prog 150) [] (fun f vs => PySem.call f vs) := by
  refine L2.walk_ofE (l := PySem.Challenge.rw_indexwise_k41_numbers_and_sides) (n := 63) (k := 51) (x := "_law_script") (CX := L2.CX0) rfl (by decide) (by kernel_rfl) ⟨rfl, by decide, by decide⟩ ?F (fun _ _ _ _ z => z)
  intro w mg fa h Y G hmg0
  obtain ⟨K, c, KX⟩ := Y
  rw [law_name] at hmg0
  have E := facts KX G c
  obtain ⟨hm, fd, F⟩ := E.f_law
  have ea : fa = He.ga K "law" := Value.ref.inj (Option.some.inj (hmg0.symm.trans hm))
  subst ea
  have b := L2.FunD.bindsA (ps := ["_law_script"]) F fun _ _ _ _ _ _ us hl => match us, hl with | [_], _ => rfl
  exact ⟨K, fd, Sx.spT K Sx.T_law, KX, fun s v => b s [v] rfl, fun H a ns hl _ hS => Sx.sp_law hl hS, fun base _ _ => Sx.ok_law E F⟩
end HeadB
open PySem PySem.W PySem.Calls PyProof.Rows
theorem PySem.Challenge.cw_indexwise_k41_numbers_and_sides_holds : PySem.Challenge.rw_indexwise_k41_numbers_and_sides.Holds := by
  exact Sx.early fun said => HeadB.held said HeadB.walked
