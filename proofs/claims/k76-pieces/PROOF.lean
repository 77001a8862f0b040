import PyProof.Rows.All
import Wide.All
import OpenK.AllK
import Wide.FinOn
import KE.KStateDown
import KE.GoesEnum
import Lean
import HandS.ForMost
import HandS.Defaults
import HandS.IsInst
import HandS.Walk
import HandS.Head0
import HandS.Head1
import HandS.Head2
import HandS.HeadEnd
import HandS.HeadHook1
import HandS.HeadHook2
import HandS.TupAny
import PySem.Challenge.RW_tightwood_k76_pieces_that_stay
set_option Elab.async false
set_option linter.all false
set_option maxRecDepth 100000
set_option maxHeartbeats 4000000
namespace K76
open PySem PySem.Spec PyProof.Rows L2
/-! ### the text by places -/
def topS (i : Nat) : Stmt := PySem.Challenge.pw_tightwood_k76_pieces_that_stay.main.body.getD i (.Pass ⟨0, 0, 0, 0⟩)
abbrev s_sums_of : Stmt := topS 12
abbrev s_tops_in : Stmt := topS 13
abbrev s_cut_evenly : Stmt := topS 14
abbrev s_put_for : Stmt := topS 15
abbrev s_ones_in : Stmt := topS 18
abbrev s_is_amid : Stmt := topS 22
abbrev s_words_of : Stmt := topS 23
abbrev s_ask_row : Stmt := topS 38
abbrev s_table_of : Stmt := topS 39
abbrev s_look_at : Stmt := topS 43
abbrev s_row_of : Stmt := topS 44
abbrev s_elders_of : Stmt := topS 45
abbrev s_is_number : Stmt := topS 49
abbrev s__law_cell_at : Stmt := topS 52
abbrev s__law_mixed : Stmt := topS 54
abbrev s__law_digits : Stmt := topS 55
abbrev s__law_wood : Stmt := topS 56
abbrev s__law_large : Stmt := topS 57
abbrev s__law_row : Stmt := topS 58
abbrev s__law_end : Stmt := topS 59
abbrev s__law_without : Stmt := topS 61
abbrev s__law_spot : Stmt := topS 62
abbrev s__law_with : Stmt := topS 63
abbrev s__law_depth : Stmt := topS 64
abbrev s__law_place : Stmt := topS 65
abbrev s__law_stay : Stmt := topS 66
abbrev s__law_sums : Stmt := topS 67
abbrev s__law_knots : Stmt := topS 68
abbrev s__law_in_form : Stmt := topS 69
abbrev s_law : Stmt := topS 70
abbrev s_Bits_init : Stmt := inClass (topS 24) 0
abbrev s_Bits_size : Stmt := inClass (topS 24) 1
abbrev s_Bits_words : Stmt := inClass (topS 24) 3
abbrev s_Bits_need : Stmt := inClass (topS 24) 4
abbrev s_Bits_at : Stmt := inClass (topS 24) 5
abbrev s_Bits_stretch : Stmt := inClass (topS 24) 7
abbrev s_Bits_text : Stmt := inClass (topS 24) 8
abbrev s_Counts_init : Stmt := inClass (topS 31) 0
abbrev s_Pairs_init : Stmt := inClass (topS 40) 0
abbrev s_Pairs_text : Stmt := inClass (topS 40) 2
abbrev s_Shaped_init : Stmt := inClass (topS 50) 0
abbrev s_Shaped_pieces : Stmt := inClass (topS 50) 1
abbrev s_Shaped_sums : Stmt := inClass (topS 50) 2
abbrev s_Shaped_row : Stmt := inClass (topS 50) 3
abbrev s_Shaped_many_knots : Stmt := inClass (topS 50) 5
abbrev s_Shaped_look_at_knot : Stmt := inClass (topS 50) 6
abbrev s_Shaped_spot_of : Stmt := inClass (topS 50) 7
abbrev s_Shaped_closing_from : Stmt := inClass (topS 50) 8
abbrev s_Shaped_back_to : Stmt := inClass (topS 50) 9
abbrev s_Shaped_knot_at : Stmt := inClass (topS 50) 10
abbrev s_Shaped_row_place : Stmt := inClass (topS 50) 11
abbrev s_Shaped_elder : Stmt := inClass (topS 50) 13
abbrev s_Shaped_depth : Stmt := inClass (topS 50) 14
abbrev s_Shaped_ends_of : Stmt := inClass (topS 50) 15
abbrev s_Shaped_beneath : Stmt := inClass (topS 50) 16
abbrev s_Shaped_children : Stmt := inClass (topS 50) 21
abbrev s_Shaped_shape : Stmt := inClass (topS 50) 24
abbrev s_Shaped_cut : Stmt := inClass (topS 50) 25
abbrev s_Shaped_graft : Stmt := inClass (topS 50) 26
def d_sums_of : He.DefD := ⟨("sums_of", none), "sums_of", "sums_of", defArgs s_sums_of, defBody s_sums_of, defScope s_sums_of, [], []⟩
def d_tops_in : He.DefD := ⟨("tops_in", none), "tops_in", "tops_in", defArgs s_tops_in, defBody s_tops_in, defScope s_tops_in, [], []⟩
def d_cut_evenly : He.DefD := ⟨("cut_evenly", none), "cut_evenly", "cut_evenly", defArgs s_cut_evenly, defBody s_cut_evenly, defScope s_cut_evenly, [], []⟩
def d_put_for : He.DefD := ⟨("put_for", none), "put_for", "put_for", defArgs s_put_for, defBody s_put_for, defScope s_put_for, [], []⟩
def d_ones_in : He.DefD := ⟨("ones_in", none), "ones_in", "ones_in", defArgs s_ones_in, defBody s_ones_in, defScope s_ones_in, [], []⟩
def d_is_amid : He.DefD := ⟨("is_amid", none), "is_amid", "is_amid", defArgs s_is_amid, defBody s_is_amid, defScope s_is_amid, [], []⟩
def d_words_of : He.DefD := ⟨("words_of", none), "words_of", "words_of", defArgs s_words_of, defBody s_words_of, defScope s_words_of, [], []⟩
def d_ask_row : He.DefD := ⟨("ask_row", none), "ask_row", "ask_row", defArgs s_ask_row, defBody s_ask_row, defScope s_ask_row, [], []⟩
def d_table_of : He.DefD := ⟨("table_of", none), "table_of", "table_of", defArgs s_table_of, defBody s_table_of, defScope s_table_of, [], []⟩
def d_look_at : He.DefD := ⟨("look_at", none), "look_at", "look_at", defArgs s_look_at, defBody s_look_at, defScope s_look_at, [], []⟩
def d_row_of : He.DefD := ⟨("row_of", none), "row_of", "row_of", defArgs s_row_of, defBody s_row_of, defScope s_row_of, [], []⟩
def d_elders_of : He.DefD := ⟨("elders_of", none), "elders_of", "elders_of", defArgs s_elders_of, defBody s_elders_of, defScope s_elders_of, [], []⟩
def d_is_number : He.DefD := ⟨("is_number", none), "is_number", "is_number", defArgs s_is_number, defBody s_is_number, defScope s_is_number, [], []⟩
def d__law_cell_at : He.DefD := ⟨("_law_cell_at", none), "_law_cell_at", "_law_cell_at", defArgs s__law_cell_at, defBody s__law_cell_at, defScope s__law_cell_at, [], []⟩
def d__law_mixed : He.DefD := ⟨("_law_mixed", none), "_law_mixed", "_law_mixed", defArgs s__law_mixed, defBody s__law_mixed, defScope s__law_mixed, [], []⟩
def d__law_digits : He.DefD := ⟨("_law_digits", none), "_law_digits", "_law_digits", defArgs s__law_digits, defBody s__law_digits, defScope s__law_digits, [], []⟩
def d__law_wood : He.DefD := ⟨("_law_wood", none), "_law_wood", "_law_wood", defArgs s__law_wood, defBody s__law_wood, defScope s__law_wood, [], []⟩
def d__law_large : He.DefD := ⟨("_law_large", none), "_law_large", "_law_large", defArgs s__law_large, defBody s__law_large, defScope s__law_large, [], []⟩
def d__law_row : He.DefD := ⟨("_law_row", none), "_law_row", "_law_row", defArgs s__law_row, defBody s__law_row, defScope s__law_row, [], []⟩
def d__law_end : He.DefD := ⟨("_law_end", none), "_law_end", "_law_end", defArgs s__law_end, defBody s__law_end, defScope s__law_end, [], []⟩
def d__law_without : He.DefD := ⟨("_law_without", none), "_law_without", "_law_without", defArgs s__law_without, defBody s__law_without, defScope s__law_without, [], []⟩
def d__law_spot : He.DefD := ⟨("_law_spot", none), "_law_spot", "_law_spot", defArgs s__law_spot, defBody s__law_spot, defScope s__law_spot, [], []⟩
def d__law_with : He.DefD := ⟨("_law_with", none), "_law_with", "_law_with", defArgs s__law_with, defBody s__law_with, defScope s__law_with, [], []⟩
def d__law_depth : He.DefD := ⟨("_law_depth", none), "_law_depth", "_law_depth", defArgs s__law_depth, defBody s__law_depth, defScope s__law_depth, [], []⟩
def d__law_place : He.DefD := ⟨("_law_place", none), "_law_place", "_law_place", defArgs s__law_place, defBody s__law_place, defScope s__law_place, [], []⟩
def d__law_stay : He.DefD := ⟨("_law_stay", none), "_law_stay", "_law_stay", defArgs s__law_stay, defBody s__law_stay, defScope s__law_stay, [], []⟩
def d__law_sums : He.DefD := ⟨("_law_sums", none), "_law_sums", "_law_sums", defArgs s__law_sums, defBody s__law_sums, defScope s__law_sums, [], []⟩
def d__law_knots : He.DefD := ⟨("_law_knots", none), "_law_knots", "_law_knots", defArgs s__law_knots, defBody s__law_knots, defScope s__law_knots, [], []⟩
def d__law_in_form : He.DefD := ⟨("_law_in_form", none), "_law_in_form", "_law_in_form", defArgs s__law_in_form, defBody s__law_in_form, defScope s__law_in_form, [], []⟩
def d_law : He.DefD := ⟨("law", none), "law", "law", defArgs s_law, defBody s_law, defScope s_law, [], []⟩
def d_Bits_init : He.DefD := ⟨("Bits", some "__init__"), "__init__", "Bits.__init__", defArgs s_Bits_init, defBody s_Bits_init, defScope s_Bits_init, [], []⟩
def d_Bits_size : He.DefD := ⟨("Bits", some "size"), "size", "Bits.size", defArgs s_Bits_size, defBody s_Bits_size, defScope s_Bits_size, [], []⟩
def d_Bits_words : He.DefD := ⟨("Bits", some "words"), "words", "Bits.words", defArgs s_Bits_words, defBody s_Bits_words, defScope s_Bits_words, [], []⟩
def d_Bits_need : He.DefD := ⟨("Bits", some "need"), "need", "Bits.need", defArgs s_Bits_need, defBody s_Bits_need, defScope s_Bits_need, [], []⟩
def d_Bits_at : He.DefD := ⟨("Bits", some "at"), "at", "Bits.at", defArgs s_Bits_at, defBody s_Bits_at, defScope s_Bits_at, [], []⟩
def d_Bits_stretch : He.DefD := ⟨("Bits", some "stretch"), "stretch", "Bits.stretch", defArgs s_Bits_stretch, defBody s_Bits_stretch, defScope s_Bits_stretch, [], []⟩
def d_Bits_text : He.DefD := ⟨("Bits", some "text"), "text", "Bits.text", defArgs s_Bits_text, defBody s_Bits_text, defScope s_Bits_text, [], []⟩
def d_Counts_init : He.DefD := ⟨("Counts", some "__init__"), "__init__", "Counts.__init__", defArgs s_Counts_init, defBody s_Counts_init, defScope s_Counts_init, [], []⟩
def d_Pairs_init : He.DefD := ⟨("Pairs", some "__init__"), "__init__", "Pairs.__init__", defArgs s_Pairs_init, defBody s_Pairs_init, defScope s_Pairs_init, [], []⟩
def d_Pairs_text : He.DefD := ⟨("Pairs", some "text"), "text", "Pairs.text", defArgs s_Pairs_text, defBody s_Pairs_text, defScope s_Pairs_text, [], []⟩
def d_Shaped_init : He.DefD := ⟨("Shaped", some "__init__"), "__init__", "Shaped.__init__", defArgs s_Shaped_init, defBody s_Shaped_init, defScope s_Shaped_init, [], []⟩
def d_Shaped_pieces : He.DefD := ⟨("Shaped", some "pieces"), "pieces", "Shaped.pieces", defArgs s_Shaped_pieces, defBody s_Shaped_pieces, defScope s_Shaped_pieces, [], []⟩
def d_Shaped_sums : He.DefD := ⟨("Shaped", some "sums"), "sums", "Shaped.sums", defArgs s_Shaped_sums, defBody s_Shaped_sums, defScope s_Shaped_sums, [], []⟩
def d_Shaped_row : He.DefD := ⟨("Shaped", some "row"), "row", "Shaped.row", defArgs s_Shaped_row, defBody s_Shaped_row, defScope s_Shaped_row, [], []⟩
def d_Shaped_many_knots : He.DefD := ⟨("Shaped", some "many_knots"), "many_knots", "Shaped.many_knots", defArgs s_Shaped_many_knots, defBody s_Shaped_many_knots, defScope s_Shaped_many_knots, [], []⟩
def d_Shaped_look_at_knot : He.DefD := ⟨("Shaped", some "look_at_knot"), "look_at_knot", "Shaped.look_at_knot", defArgs s_Shaped_look_at_knot, defBody s_Shaped_look_at_knot, defScope s_Shaped_look_at_knot, [], []⟩
def d_Shaped_spot_of : He.DefD := ⟨("Shaped", some "spot_of"), "spot_of", "Shaped.spot_of", defArgs s_Shaped_spot_of, defBody s_Shaped_spot_of, defScope s_Shaped_spot_of, [], []⟩
def d_Shaped_closing_from : He.DefD := ⟨("Shaped", some "closing_from"), "closing_from", "Shaped.closing_from", defArgs s_Shaped_closing_from, defBody s_Shaped_closing_from, defScope s_Shaped_closing_from, [], []⟩
def d_Shaped_back_to : He.DefD := ⟨("Shaped", some "back_to"), "back_to", "Shaped.back_to", defArgs s_Shaped_back_to, defBody s_Shaped_back_to, defScope s_Shaped_back_to, [], []⟩
def d_Shaped_knot_at : He.DefD := ⟨("Shaped", some "knot_at"), "knot_at", "Shaped.knot_at", defArgs s_Shaped_knot_at, defBody s_Shaped_knot_at, defScope s_Shaped_knot_at, [], []⟩
def d_Shaped_row_place : He.DefD := ⟨("Shaped", some "row_place"), "row_place", "Shaped.row_place", defArgs s_Shaped_row_place, defBody s_Shaped_row_place, defScope s_Shaped_row_place, [], []⟩
def d_Shaped_elder : He.DefD := ⟨("Shaped", some "elder"), "elder", "Shaped.elder", defArgs s_Shaped_elder, defBody s_Shaped_elder, defScope s_Shaped_elder, [], []⟩
def d_Shaped_depth : He.DefD := ⟨("Shaped", some "depth"), "depth", "Shaped.depth", defArgs s_Shaped_depth, defBody s_Shaped_depth, defScope s_Shaped_depth, [], []⟩
def d_Shaped_ends_of : He.DefD := ⟨("Shaped", some "ends_of"), "ends_of", "Shaped.ends_of", defArgs s_Shaped_ends_of, defBody s_Shaped_ends_of, defScope s_Shaped_ends_of, [], []⟩
def d_Shaped_beneath : He.DefD := ⟨("Shaped", some "beneath"), "beneath", "Shaped.beneath", defArgs s_Shaped_beneath, defBody s_Shaped_beneath, defScope s_Shaped_beneath, [], []⟩
def d_Shaped_children : He.DefD := ⟨("Shaped", some "children"), "children", "Shaped.children", defArgs s_Shaped_children, defBody s_Shaped_children, defScope s_Shaped_children, [], []⟩
def d_Shaped_shape : He.DefD := ⟨("Shaped", some "shape"), "shape", "Shaped.shape", defArgs s_Shaped_shape, defBody s_Shaped_shape, defScope s_Shaped_shape, [], []⟩
def d_Shaped_cut : He.DefD := ⟨("Shaped", some "cut"), "cut", "Shaped.cut", defArgs s_Shaped_cut, defBody s_Shaped_cut, defScope s_Shaped_cut, [], []⟩
def d_Shaped_graft : He.DefD := ⟨("Shaped", some "graft"), "graft", "Shaped.graft", defArgs s_Shaped_graft, defBody s_Shaped_graft, defScope s_Shaped_graft, [], []⟩
def fn0 : List He.DefD := [d_sums_of, d_tops_in, d_cut_evenly, d_put_for, d_ones_in, d_is_amid, d_words_of, d_ask_row, d_table_of, d_look_at, d_row_of, d_elders_of, d_is_number, d__law_cell_at, d__law_mixed, d__law_digits, d__law_wood, d__law_large, d__law_row, d__law_end]
def fn1 : List He.DefD := [d__law_without, d__law_spot, d__law_with, d__law_depth, d__law_place, d__law_stay, d__law_sums, d__law_knots, d__law_in_form, d_law, d_Bits_init, d_Bits_size, d_Bits_words, d_Bits_need, d_Bits_at, d_Bits_stretch, d_Bits_text, d_Counts_init, d_Pairs_init, d_Pairs_text]
def fn2 : List He.DefD := [d_Shaped_init, d_Shaped_pieces, d_Shaped_sums, d_Shaped_row, d_Shaped_many_knots, d_Shaped_look_at_knot, d_Shaped_spot_of, d_Shaped_closing_from, d_Shaped_back_to, d_Shaped_knot_at, d_Shaped_row_place, d_Shaped_elder, d_Shaped_depth, d_Shaped_ends_of, d_Shaped_beneath, d_Shaped_children, d_Shaped_shape, d_Shaped_cut, d_Shaped_graft]
def fn : List He.DefD := fn0 ++ fn1 ++ fn2
def fa0 : List He.Fa := [.glo "sums_of", .glo "tops_in", .glo "cut_evenly", .glo "put_for", .glo "ones_in", .glo "is_amid", .glo "words_of", .glo "ask_row", .glo "table_of", .glo "look_at", .glo "row_of", .glo "elders_of", .glo "is_number", .glo "_law_cell_at", .glo "_law_mixed", .glo "_law_digits", .glo "_law_wood", .glo "_law_large", .glo "_law_row", .glo "_law_end"]
def fa1 : List He.Fa := [.glo "_law_without", .glo "_law_spot", .glo "_law_with", .glo "_law_depth", .glo "_law_place", .glo "_law_stay", .glo "_law_sums", .glo "_law_knots", .glo "_law_in_form", .glo "law", .glo "Bits", .cls "Bits", .mkr "Bits", .noat "Bits" "kept", .noat "Bits" "length", .meth "Bits" "size", .meth "Bits" "words", .meth "Bits" "need", .meth "Bits" "at", .meth "Bits" "stretch"]
def fa2 : List He.Fa := [.meth "Bits" "text", .glo "Counts", .cls "Counts", .mkr "Counts", .noat "Counts" "kept", .noat "Counts" "all_many", .noat "Counts" "heads", .glo "Pairs", .cls "Pairs", .mkr "Pairs", .noat "Pairs" "bits", .noat "Pairs" "kept", .noat "Pairs" "counts", .noat "Pairs" "laid", .meth "Pairs" "text", .glo "Shaped", .cls "Shaped", .mkr "Shaped", .noat "Shaped" "parts", .noat "Shaped" "totals"]
def fa3 : List He.Fa := [.noat "Shaped" "past", .meth "Shaped" "pieces", .meth "Shaped" "sums", .meth "Shaped" "row", .meth "Shaped" "many_knots", .meth "Shaped" "look_at_knot", .meth "Shaped" "spot_of", .meth "Shaped" "closing_from", .meth "Shaped" "back_to", .meth "Shaped" "knot_at", .meth "Shaped" "row_place", .meth "Shaped" "elder", .meth "Shaped" "depth", .meth "Shaped" "ends_of", .meth "Shaped" "beneath", .meth "Shaped" "children", .meth "Shaped" "shape", .meth "Shaped" "cut", .meth "Shaped" "graft", .int "MOST_pieces" 128]
def fa4 : List He.Fa := [.int "WORD_words" 32, .int "MOST_bits" 20000, .int "BLOCK" 8, .int "STRETCH" 256, .int "MOST_pairs" 8192, .int "MOST_woods" 4000, .int "MOST_KNOTS" 4000, .free "len", .free "range", .free "enumerate", .free "max", .free "min", .free "sum", .free "list", .free "tuple", .free "int", .free "str", .free "bool", .free "isinstance", .free "all"]
def fa5 : List He.Fa := [.free "abs"]
def fa : List He.Fa := fa0 ++ fa1 ++ fa2 ++ fa3 ++ fa4 ++ fa5
def lo0 : List PySem.Str := ["_wall", "WoodError", "NoBits", "NoPlace", "NoRow", "NoWood", "NoKnot", "NoGraft", "TooLarge", "MOST_pieces", "sums_of", "tops_in", "cut_evenly", "put_for", "WORD_words", "ones_in", "nth_one", "MOST_bits", "is_amid", "words_of"]
def lo1 : List PySem.Str := ["Bits", "BLOCK", "FULL", "is_whole", "is_whole_counts", "need_bit", "Counts", "STRETCH", "MOST_pairs", "WORD_pairs", "is_whole_pairs", "ask_row", "table_of", "Pairs", "MOST_woods", "look_at", "row_of", "elders_of", "Wood", "MOST_KNOTS"]
def lo2 : List PySem.Str := ["is_number", "Shaped", "_law_cell_at", "_law_whole", "_law_mixed", "_law_digits", "_law_wood", "_law_large", "_law_row", "_law_end", "_law_part", "_law_without", "_law_spot", "_law_with", "_law_depth", "_law_place", "_law_stay", "_law_sums", "_law_knots", "_law_in_form"]
def lo : List PySem.Str := lo0 ++ lo1 ++ lo2
/-! ### what the top has left -/
structure Top (K : PySem.W.Frag) (mg : Str → Option Value) : Prop where
  ex : ∃ h : Heap, K.In h ∧ h.Ns mainGlobals mg
  says : He.SaysD fa fn K
section
variable {K : PySem.W.Frag} {mg : Str → Option Value}
theorem Top.glo (T : Top K mg) (i : Nat) {x : Str} (h : fa[i]? = some (.glo x)) : mg x = some (.ref (He.ga K x)) := let ⟨_, X, G⟩ := T.ex; He.glo_ok X G (T.says.fact i h)
theorem Top.free (T : Top K mg) (i : Nat) {x : Str} (h : fa[i]? = some (.free x)) : mg x = none := let ⟨_, X, G⟩ := T.ex; He.free_ok X G (T.says.fact i h)
theorem Top.int (T : Top K mg) (i : Nat) {x : Str} {j : Int} (h : fa[i]? = some (.int x j)) : ∃ t, mg x = some (.int j t) := let ⟨_, X, G⟩ := T.ex; He.int_ok X G (T.says.fact i h)
theorem Top.cls (T : Top K mg) (i : Nat) {x : Str} (h : fa[i]? = some (.cls x)) : Cls K (He.ga K x) := He.cls_ok (T.says.fact i h)
theorem Top.noat (T : Top K mg) (i : Nat) {x f : Str} (h : fa[i]? = some (.noat x f)) : NoAttr K (He.ga K x) f := He.noat_ok (T.says.fact i h)
theorem Top.meth (T : Top K mg) (i : Nat) {x m : Str} (h : fa[i]? = some (.meth x m)) : Meth K (He.ga K x) m (He.ma K (He.ga K x) m) := He.meth_ok (T.says.fact i h)
theorem Top.mkr (T : Top K mg) (i : Nat) {x : Str} (h : fa[i]? = some (.mkr x)) : Mk K (He.ga K x) (He.ma K (He.ga K x) "__init__") := He.mkr_ok (T.says.fact i h)
abbrev FnP (K : PySem.W.Frag) (x qual : Str) (st : Stmt) (f : Addr) (fd : FuncData) : Prop := FunD K x qual (defArgs st) (defBody st) (defScope st) [] [] f fd
theorem Top.g_sums_of (T : Top K mg) : mg "sums_of" = some (.ref (He.ga K "sums_of")) := T.glo 0 (by rfl)
theorem Top.g_tops_in (T : Top K mg) : mg "tops_in" = some (.ref (He.ga K "tops_in")) := T.glo 1 (by rfl)
theorem Top.g_cut_evenly (T : Top K mg) : mg "cut_evenly" = some (.ref (He.ga K "cut_evenly")) := T.glo 2 (by rfl)
theorem Top.g_put_for (T : Top K mg) : mg "put_for" = some (.ref (He.ga K "put_for")) := T.glo 3 (by rfl)
theorem Top.g_ones_in (T : Top K mg) : mg "ones_in" = some (.ref (He.ga K "ones_in")) := T.glo 4 (by rfl)
theorem Top.g_is_amid (T : Top K mg) : mg "is_amid" = some (.ref (He.ga K "is_amid")) := T.glo 5 (by rfl)
theorem Top.g_words_of (T : Top K mg) : mg "words_of" = some (.ref (He.ga K "words_of")) := T.glo 6 (by rfl)
theorem Top.g_ask_row (T : Top K mg) : mg "ask_row" = some (.ref (He.ga K "ask_row")) := T.glo 7 (by rfl)
theorem Top.g_table_of (T : Top K mg) : mg "table_of" = some (.ref (He.ga K "table_of")) := T.glo 8 (by rfl)
theorem Top.g_look_at (T : Top K mg) : mg "look_at" = some (.ref (He.ga K "look_at")) := T.glo 9 (by rfl)
theorem Top.g_row_of (T : Top K mg) : mg "row_of" = some (.ref (He.ga K "row_of")) := T.glo 10 (by rfl)
theorem Top.g_elders_of (T : Top K mg) : mg "elders_of" = some (.ref (He.ga K "elders_of")) := T.glo 11 (by rfl)
theorem Top.g_is_number (T : Top K mg) : mg "is_number" = some (.ref (He.ga K "is_number")) := T.glo 12 (by rfl)
theorem Top.g__law_cell_at (T : Top K mg) : mg "_law_cell_at" = some (.ref (He.ga K "_law_cell_at")) := T.glo 13 (by rfl)
theorem Top.g__law_mixed (T : Top K mg) : mg "_law_mixed" = some (.ref (He.ga K "_law_mixed")) := T.glo 14 (by rfl)
theorem Top.g__law_digits (T : Top K mg) : mg "_law_digits" = some (.ref (He.ga K "_law_digits")) := T.glo 15 (by rfl)
theorem Top.g__law_wood (T : Top K mg) : mg "_law_wood" = some (.ref (He.ga K "_law_wood")) := T.glo 16 (by rfl)
theorem Top.g__law_large (T : Top K mg) : mg "_law_large" = some (.ref (He.ga K "_law_large")) := T.glo 17 (by rfl)
theorem Top.g__law_row (T : Top K mg) : mg "_law_row" = some (.ref (He.ga K "_law_row")) := T.glo 18 (by rfl)
theorem Top.g__law_end (T : Top K mg) : mg "_law_end" = some (.ref (He.ga K "_law_end")) := T.glo 19 (by rfl)
theorem Top.g__law_without (T : Top K mg) : mg "_law_without" = some (.ref (He.ga K "_law_without")) := T.glo 20 (by rfl)
theorem Top.g__law_spot (T : Top K mg) : mg "_law_spot" = some (.ref (He.ga K "_law_spot")) := T.glo 21 (by rfl)
theorem Top.g__law_with (T : Top K mg) : mg "_law_with" = some (.ref (He.ga K "_law_with")) := T.glo 22 (by rfl)
theorem Top.g__law_depth (T : Top K mg) : mg "_law_depth" = some (.ref (He.ga K "_law_depth")) := T.glo 23 (by rfl)
theorem Top.g__law_place (T : Top K mg) : mg "_law_place" = some (.ref (He.ga K "_law_place")) := T.glo 24 (by rfl)
theorem Top.g__law_stay (T : Top K mg) : mg "_law_stay" = some (.ref (He.ga K "_law_stay")) := T.glo 25 (by rfl)
theorem Top.g__law_sums (T : Top K mg) : mg "_law_sums" = some (.ref (He.ga K "_law_sums")) := T.glo 26 (by rfl)
theorem Top.g__law_knots (T : Top K mg) : mg "_law_knots" = some (.ref (He.ga K "_law_knots")) := T.glo 27 (by rfl)
theorem Top.g__law_in_form (T : Top K mg) : mg "_law_in_form" = some (.ref (He.ga K "_law_in_form")) := T.glo 28 (by rfl)
theorem Top.g_law (T : Top K mg) : mg "law" = some (.ref (He.ga K "law")) := T.glo 29 (by rfl)
theorem Top.g_Bits (T : Top K mg) : mg "Bits" = some (.ref (He.ga K "Bits")) := T.glo 30 (by rfl)
theorem Top.c_Bits (T : Top K mg) : Cls K (He.ga K "Bits") := T.cls 31 (by rfl)
theorem Top.k_Bits (T : Top K mg) : Mk K (He.ga K "Bits") (He.ma K (He.ga K "Bits") "__init__") := T.mkr 32 (by rfl)
theorem Top.n_Bits_kept (T : Top K mg) : NoAttr K (He.ga K "Bits") "kept" := T.noat 33 (by rfl)
theorem Top.n_Bits_length (T : Top K mg) : NoAttr K (He.ga K "Bits") "length" := T.noat 34 (by rfl)
theorem Top.m_Bits_size (T : Top K mg) : Meth K (He.ga K "Bits") "size" (He.ma K (He.ga K "Bits") "size") := T.meth 35 (by rfl)
theorem Top.m_Bits_words (T : Top K mg) : Meth K (He.ga K "Bits") "words" (He.ma K (He.ga K "Bits") "words") := T.meth 36 (by rfl)
theorem Top.m_Bits_need (T : Top K mg) : Meth K (He.ga K "Bits") "need" (He.ma K (He.ga K "Bits") "need") := T.meth 37 (by rfl)
theorem Top.m_Bits_at (T : Top K mg) : Meth K (He.ga K "Bits") "at" (He.ma K (He.ga K "Bits") "at") := T.meth 38 (by rfl)
theorem Top.m_Bits_stretch (T : Top K mg) : Meth K (He.ga K "Bits") "stretch" (He.ma K (He.ga K "Bits") "stretch") := T.meth 39 (by rfl)
theorem Top.m_Bits_text (T : Top K mg) : Meth K (He.ga K "Bits") "text" (He.ma K (He.ga K "Bits") "text") := T.meth 40 (by rfl)
theorem Top.g_Counts (T : Top K mg) : mg "Counts" = some (.ref (He.ga K "Counts")) := T.glo 41 (by rfl)
theorem Top.c_Counts (T : Top K mg) : Cls K (He.ga K "Counts") := T.cls 42 (by rfl)
theorem Top.k_Counts (T : Top K mg) : Mk K (He.ga K "Counts") (He.ma K (He.ga K "Counts") "__init__") := T.mkr 43 (by rfl)
theorem Top.n_Counts_kept (T : Top K mg) : NoAttr K (He.ga K "Counts") "kept" := T.noat 44 (by rfl)
theorem Top.n_Counts_all_many (T : Top K mg) : NoAttr K (He.ga K "Counts") "all_many" := T.noat 45 (by rfl)
theorem Top.n_Counts_heads (T : Top K mg) : NoAttr K (He.ga K "Counts") "heads" := T.noat 46 (by rfl)
theorem Top.g_Pairs (T : Top K mg) : mg "Pairs" = some (.ref (He.ga K "Pairs")) := T.glo 47 (by rfl)
theorem Top.c_Pairs (T : Top K mg) : Cls K (He.ga K "Pairs") := T.cls 48 (by rfl)
theorem Top.k_Pairs (T : Top K mg) : Mk K (He.ga K "Pairs") (He.ma K (He.ga K "Pairs") "__init__") := T.mkr 49 (by rfl)
theorem Top.n_Pairs_bits (T : Top K mg) : NoAttr K (He.ga K "Pairs") "bits" := T.noat 50 (by rfl)
theorem Top.n_Pairs_kept (T : Top K mg) : NoAttr K (He.ga K "Pairs") "kept" := T.noat 51 (by rfl)
theorem Top.n_Pairs_counts (T : Top K mg) : NoAttr K (He.ga K "Pairs") "counts" := T.noat 52 (by rfl)
theorem Top.n_Pairs_laid (T : Top K mg) : NoAttr K (He.ga K "Pairs") "laid" := T.noat 53 (by rfl)
theorem Top.m_Pairs_text (T : Top K mg) : Meth K (He.ga K "Pairs") "text" (He.ma K (He.ga K "Pairs") "text") := T.meth 54 (by rfl)
theorem Top.g_Shaped (T : Top K mg) : mg "Shaped" = some (.ref (He.ga K "Shaped")) := T.glo 55 (by rfl)
theorem Top.c_Shaped (T : Top K mg) : Cls K (He.ga K "Shaped") := T.cls 56 (by rfl)
theorem Top.k_Shaped (T : Top K mg) : Mk K (He.ga K "Shaped") (He.ma K (He.ga K "Shaped") "__init__") := T.mkr 57 (by rfl)
theorem Top.n_Shaped_parts (T : Top K mg) : NoAttr K (He.ga K "Shaped") "parts" := T.noat 58 (by rfl)
theorem Top.n_Shaped_totals (T : Top K mg) : NoAttr K (He.ga K "Shaped") "totals" := T.noat 59 (by rfl)
theorem Top.n_Shaped_past (T : Top K mg) : NoAttr K (He.ga K "Shaped") "past" := T.noat 60 (by rfl)
theorem Top.m_Shaped_pieces (T : Top K mg) : Meth K (He.ga K "Shaped") "pieces" (He.ma K (He.ga K "Shaped") "pieces") := T.meth 61 (by rfl)
theorem Top.m_Shaped_sums (T : Top K mg) : Meth K (He.ga K "Shaped") "sums" (He.ma K (He.ga K "Shaped") "sums") := T.meth 62 (by rfl)
theorem Top.m_Shaped_row (T : Top K mg) : Meth K (He.ga K "Shaped") "row" (He.ma K (He.ga K "Shaped") "row") := T.meth 63 (by rfl)
theorem Top.m_Shaped_many_knots (T : Top K mg) : Meth K (He.ga K "Shaped") "many_knots" (He.ma K (He.ga K "Shaped") "many_knots") := T.meth 64 (by rfl)
theorem Top.m_Shaped_look_at_knot (T : Top K mg) : Meth K (He.ga K "Shaped") "look_at_knot" (He.ma K (He.ga K "Shaped") "look_at_knot") := T.meth 65 (by rfl)
theorem Top.m_Shaped_spot_of (T : Top K mg) : Meth K (He.ga K "Shaped") "spot_of" (He.ma K (He.ga K "Shaped") "spot_of") := T.meth 66 (by rfl)
theorem Top.m_Shaped_closing_from (T : Top K mg) : Meth K (He.ga K "Shaped") "closing_from" (He.ma K (He.ga K "Shaped") "closing_from") := T.meth 67 (by rfl)
theorem Top.m_Shaped_back_to (T : Top K mg) : Meth K (He.ga K "Shaped") "back_to" (He.ma K (He.ga K "Shaped") "back_to") := T.meth 68 (by rfl)
theorem Top.m_Shaped_knot_at (T : Top K mg) : Meth K (He.ga K "Shaped") "knot_at" (He.ma K (He.ga K "Shaped") "knot_at") := T.meth 69 (by rfl)
theorem Top.m_Shaped_row_place (T : Top K mg) : Meth K (He.ga K "Shaped") "row_place" (He.ma K (He.ga K "Shaped") "row_place") := T.meth 70 (by rfl)
theorem Top.m_Shaped_elder (T : Top K mg) : Meth K (He.ga K "Shaped") "elder" (He.ma K (He.ga K "Shaped") "elder") := T.meth 71 (by rfl)
theorem Top.m_Shaped_depth (T : Top K mg) : Meth K (He.ga K "Shaped") "depth" (He.ma K (He.ga K "Shaped") "depth") := T.meth 72 (by rfl)
theorem Top.m_Shaped_ends_of (T : Top K mg) : Meth K (He.ga K "Shaped") "ends_of" (He.ma K (He.ga K "Shaped") "ends_of") := T.meth 73 (by rfl)
theorem Top.m_Shaped_beneath (T : Top K mg) : Meth K (He.ga K "Shaped") "beneath" (He.ma K (He.ga K "Shaped") "beneath") := T.meth 74 (by rfl)
theorem Top.m_Shaped_children (T : Top K mg) : Meth K (He.ga K "Shaped") "children" (He.ma K (He.ga K "Shaped") "children") := T.meth 75 (by rfl)
theorem Top.m_Shaped_shape (T : Top K mg) : Meth K (He.ga K "Shaped") "shape" (He.ma K (He.ga K "Shaped") "shape") := T.meth 76 (by rfl)
theorem Top.m_Shaped_cut (T : Top K mg) : Meth K (He.ga K "Shaped") "cut" (He.ma K (He.ga K "Shaped") "cut") := T.meth 77 (by rfl)
theorem Top.m_Shaped_graft (T : Top K mg) : Meth K (He.ga K "Shaped") "graft" (He.ma K (He.ga K "Shaped") "graft") := T.meth 78 (by rfl)
theorem Top.i_MOST_pieces (T : Top K mg) : ∃ t, mg "MOST_pieces" = some (.int 128 t) := T.int 79 (by rfl)
theorem Top.i_WORD_words (T : Top K mg) : ∃ t, mg "WORD_words" = some (.int 32 t) := T.int 80 (by rfl)
theorem Top.i_MOST_bits (T : Top K mg) : ∃ t, mg "MOST_bits" = some (.int 20000 t) := T.int 81 (by rfl)
theorem Top.i_BLOCK (T : Top K mg) : ∃ t, mg "BLOCK" = some (.int 8 t) := T.int 82 (by rfl)
theorem Top.i_STRETCH (T : Top K mg) : ∃ t, mg "STRETCH" = some (.int 256 t) := T.int 83 (by rfl)
theorem Top.i_MOST_pairs (T : Top K mg) : ∃ t, mg "MOST_pairs" = some (.int 8192 t) := T.int 84 (by rfl)
theorem Top.i_MOST_woods (T : Top K mg) : ∃ t, mg "MOST_woods" = some (.int 4000 t) := T.int 85 (by rfl)
theorem Top.i_MOST_KNOTS (T : Top K mg) : ∃ t, mg "MOST_KNOTS" = some (.int 4000 t) := T.int 86 (by rfl)
theorem Top.b_len (T : Top K mg) : mg "len" = none := T.free 87 (by rfl)
theorem Top.b_range (T : Top K mg) : mg "range" = none := T.free 88 (by rfl)
theorem Top.b_enumerate (T : Top K mg) : mg "enumerate" = none := T.free 89 (by rfl)
theorem Top.b_max (T : Top K mg) : mg "max" = none := T.free 90 (by rfl)
theorem Top.b_min (T : Top K mg) : mg "min" = none := T.free 91 (by rfl)
theorem Top.b_sum (T : Top K mg) : mg "sum" = none := T.free 92 (by rfl)
theorem Top.b_list (T : Top K mg) : mg "list" = none := T.free 93 (by rfl)
theorem Top.b_tuple (T : Top K mg) : mg "tuple" = none := T.free 94 (by rfl)
theorem Top.b_int (T : Top K mg) : mg "int" = none := T.free 95 (by rfl)
theorem Top.b_str (T : Top K mg) : mg "str" = none := T.free 96 (by rfl)
theorem Top.b_bool (T : Top K mg) : mg "bool" = none := T.free 97 (by rfl)
theorem Top.b_isinstance (T : Top K mg) : mg "isinstance" = none := T.free 98 (by rfl)
theorem Top.b_all (T : Top K mg) : mg "all" = none := T.free 99 (by rfl)
theorem Top.b_abs (T : Top K mg) : mg "abs" = none := T.free 100 (by rfl)
theorem Top.f_sums_of (T : Top K mg) : ∃ fd, FnP K "sums_of" "sums_of" s_sums_of (He.ga K "sums_of") fd := T.says.def_ 0 (d := d_sums_of) (by rfl)
theorem Top.f_tops_in (T : Top K mg) : ∃ fd, FnP K "tops_in" "tops_in" s_tops_in (He.ga K "tops_in") fd := T.says.def_ 1 (d := d_tops_in) (by rfl)
theorem Top.f_cut_evenly (T : Top K mg) : ∃ fd, FnP K "cut_evenly" "cut_evenly" s_cut_evenly (He.ga K "cut_evenly") fd := T.says.def_ 2 (d := d_cut_evenly) (by rfl)
theorem Top.f_put_for (T : Top K mg) : ∃ fd, FnP K "put_for" "put_for" s_put_for (He.ga K "put_for") fd := T.says.def_ 3 (d := d_put_for) (by rfl)
theorem Top.f_ones_in (T : Top K mg) : ∃ fd, FnP K "ones_in" "ones_in" s_ones_in (He.ga K "ones_in") fd := T.says.def_ 4 (d := d_ones_in) (by rfl)
theorem Top.f_is_amid (T : Top K mg) : ∃ fd, FnP K "is_amid" "is_amid" s_is_amid (He.ga K "is_amid") fd := T.says.def_ 5 (d := d_is_amid) (by rfl)
theorem Top.f_words_of (T : Top K mg) : ∃ fd, FnP K "words_of" "words_of" s_words_of (He.ga K "words_of") fd := T.says.def_ 6 (d := d_words_of) (by rfl)
theorem Top.f_ask_row (T : Top K mg) : ∃ fd, FnP K "ask_row" "ask_row" s_ask_row (He.ga K "ask_row") fd := T.says.def_ 7 (d := d_ask_row) (by rfl)
theorem Top.f_table_of (T : Top K mg) : ∃ fd, FnP K "table_of" "table_of" s_table_of (He.ga K "table_of") fd := T.says.def_ 8 (d := d_table_of) (by rfl)
theorem Top.f_look_at (T : Top K mg) : ∃ fd, FnP K "look_at" "look_at" s_look_at (He.ga K "look_at") fd := T.says.def_ 9 (d := d_look_at) (by rfl)
theorem Top.f_row_of (T : Top K mg) : ∃ fd, FnP K "row_of" "row_of" s_row_of (He.ga K "row_of") fd := T.says.def_ 10 (d := d_row_of) (by rfl)
theorem Top.f_elders_of (T : Top K mg) : ∃ fd, FnP K "elders_of" "elders_of" s_elders_of (He.ga K "elders_of") fd := T.says.def_ 11 (d := d_elders_of) (by rfl)
theorem Top.f_is_number (T : Top K mg) : ∃ fd, FnP K "is_number" "is_number" s_is_number (He.ga K "is_number") fd := T.says.def_ 12 (d := d_is_number) (by rfl)
theorem Top.f__law_cell_at (T : Top K mg) : ∃ fd, FnP K "_law_cell_at" "_law_cell_at" s__law_cell_at (He.ga K "_law_cell_at") fd := T.says.def_ 13 (d := d__law_cell_at) (by rfl)
theorem Top.f__law_mixed (T : Top K mg) : ∃ fd, FnP K "_law_mixed" "_law_mixed" s__law_mixed (He.ga K "_law_mixed") fd := T.says.def_ 14 (d := d__law_mixed) (by rfl)
theorem Top.f__law_digits (T : Top K mg) : ∃ fd, FnP K "_law_digits" "_law_digits" s__law_digits (He.ga K "_law_digits") fd := T.says.def_ 15 (d := d__law_digits) (by rfl)
theorem Top.f__law_wood (T : Top K mg) : ∃ fd, FnP K "_law_wood" "_law_wood" s__law_wood (He.ga K "_law_wood") fd := T.says.def_ 16 (d := d__law_wood) (by rfl)
theorem Top.f__law_large (T : Top K mg) : ∃ fd, FnP K "_law_large" "_law_large" s__law_large (He.ga K "_law_large") fd := T.says.def_ 17 (d := d__law_large) (by rfl)
theorem Top.f__law_row (T : Top K mg) : ∃ fd, FnP K "_law_row" "_law_row" s__law_row (He.ga K "_law_row") fd := T.says.def_ 18 (d := d__law_row) (by rfl)
theorem Top.f__law_end (T : Top K mg) : ∃ fd, FnP K "_law_end" "_law_end" s__law_end (He.ga K "_law_end") fd := T.says.def_ 19 (d := d__law_end) (by rfl)
theorem Top.f__law_without (T : Top K mg) : ∃ fd, FnP K "_law_without" "_law_without" s__law_without (He.ga K "_law_without") fd := T.says.def_ 20 (d := d__law_without) (by rfl)
theorem Top.f__law_spot (T : Top K mg) : ∃ fd, FnP K "_law_spot" "_law_spot" s__law_spot (He.ga K "_law_spot") fd := T.says.def_ 21 (d := d__law_spot) (by rfl)
theorem Top.f__law_with (T : Top K mg) : ∃ fd, FnP K "_law_with" "_law_with" s__law_with (He.ga K "_law_with") fd := T.says.def_ 22 (d := d__law_with) (by rfl)
theorem Top.f__law_depth (T : Top K mg) : ∃ fd, FnP K "_law_depth" "_law_depth" s__law_depth (He.ga K "_law_depth") fd := T.says.def_ 23 (d := d__law_depth) (by rfl)
theorem Top.f__law_place (T : Top K mg) : ∃ fd, FnP K "_law_place" "_law_place" s__law_place (He.ga K "_law_place") fd := T.says.def_ 24 (d := d__law_place) (by rfl)
theorem Top.f__law_stay (T : Top K mg) : ∃ fd, FnP K "_law_stay" "_law_stay" s__law_stay (He.ga K "_law_stay") fd := T.says.def_ 25 (d := d__law_stay) (by rfl)
theorem Top.f__law_sums (T : Top K mg) : ∃ fd, FnP K "_law_sums" "_law_sums" s__law_sums (He.ga K "_law_sums") fd := T.says.def_ 26 (d := d__law_sums) (by rfl)
theorem Top.f__law_knots (T : Top K mg) : ∃ fd, FnP K "_law_knots" "_law_knots" s__law_knots (He.ga K "_law_knots") fd := T.says.def_ 27 (d := d__law_knots) (by rfl)
theorem Top.f__law_in_form (T : Top K mg) : ∃ fd, FnP K "_law_in_form" "_law_in_form" s__law_in_form (He.ga K "_law_in_form") fd := T.says.def_ 28 (d := d__law_in_form) (by rfl)
theorem Top.f_law (T : Top K mg) : ∃ fd, FnP K "law" "law" s_law (He.ga K "law") fd := T.says.def_ 29 (d := d_law) (by rfl)
theorem Top.f_Bits_init (T : Top K mg) : ∃ fd, FnP K "__init__" "Bits.__init__" s_Bits_init (He.ma K (He.ga K "Bits") "__init__") fd := T.says.def_ 30 (d := d_Bits_init) (by rfl)
theorem Top.f_Bits_size (T : Top K mg) : ∃ fd, FnP K "size" "Bits.size" s_Bits_size (He.ma K (He.ga K "Bits") "size") fd := T.says.def_ 31 (d := d_Bits_size) (by rfl)
theorem Top.f_Bits_words (T : Top K mg) : ∃ fd, FnP K "words" "Bits.words" s_Bits_words (He.ma K (He.ga K "Bits") "words") fd := T.says.def_ 32 (d := d_Bits_words) (by rfl)
theorem Top.f_Bits_need (T : Top K mg) : ∃ fd, FnP K "need" "Bits.need" s_Bits_need (He.ma K (He.ga K "Bits") "need") fd := T.says.def_ 33 (d := d_Bits_need) (by rfl)
theorem Top.f_Bits_at (T : Top K mg) : ∃ fd, FnP K "at" "Bits.at" s_Bits_at (He.ma K (He.ga K "Bits") "at") fd := T.says.def_ 34 (d := d_Bits_at) (by rfl)
theorem Top.f_Bits_stretch (T : Top K mg) : ∃ fd, FnP K "stretch" "Bits.stretch" s_Bits_stretch (He.ma K (He.ga K "Bits") "stretch") fd := T.says.def_ 35 (d := d_Bits_stretch) (by rfl)
theorem Top.f_Bits_text (T : Top K mg) : ∃ fd, FnP K "text" "Bits.text" s_Bits_text (He.ma K (He.ga K "Bits") "text") fd := T.says.def_ 36 (d := d_Bits_text) (by rfl)
theorem Top.f_Counts_init (T : Top K mg) : ∃ fd, FnP K "__init__" "Counts.__init__" s_Counts_init (He.ma K (He.ga K "Counts") "__init__") fd := T.says.def_ 37 (d := d_Counts_init) (by rfl)
theorem Top.f_Pairs_init (T : Top K mg) : ∃ fd, FnP K "__init__" "Pairs.__init__" s_Pairs_init (He.ma K (He.ga K "Pairs") "__init__") fd := T.says.def_ 38 (d := d_Pairs_init) (by rfl)
theorem Top.f_Pairs_text (T : Top K mg) : ∃ fd, FnP K "text" "Pairs.text" s_Pairs_text (He.ma K (He.ga K "Pairs") "text") fd := T.says.def_ 39 (d := d_Pairs_text) (by rfl)
theorem Top.f_Shaped_init (T : Top K mg) : ∃ fd, FnP K "__init__" "Shaped.__init__" s_Shaped_init (He.ma K (He.ga K "Shaped") "__init__") fd := T.says.def_ 40 (d := d_Shaped_init) (by rfl)
theorem Top.f_Shaped_pieces (T : Top K mg) : ∃ fd, FnP K "pieces" "Shaped.pieces" s_Shaped_pieces (He.ma K (He.ga K "Shaped") "pieces") fd := T.says.def_ 41 (d := d_Shaped_pieces) (by rfl)
theorem Top.f_Shaped_sums (T : Top K mg) : ∃ fd, FnP K "sums" "Shaped.sums" s_Shaped_sums (He.ma K (He.ga K "Shaped") "sums") fd := T.says.def_ 42 (d := d_Shaped_sums) (by rfl)
theorem Top.f_Shaped_row (T : Top K mg) : ∃ fd, FnP K "row" "Shaped.row" s_Shaped_row (He.ma K (He.ga K "Shaped") "row") fd := T.says.def_ 43 (d := d_Shaped_row) (by rfl)
theorem Top.f_Shaped_many_knots (T : Top K mg) : ∃ fd, FnP K "many_knots" "Shaped.many_knots" s_Shaped_many_knots (He.ma K (He.ga K "Shaped") "many_knots") fd := T.says.def_ 44 (d := d_Shaped_many_knots) (by rfl)
theorem Top.f_Shaped_look_at_knot (T : Top K mg) : ∃ fd, FnP K "look_at_knot" "Shaped.look_at_knot" s_Shaped_look_at_knot (He.ma K (He.ga K "Shaped") "look_at_knot") fd := T.says.def_ 45 (d := d_Shaped_look_at_knot) (by rfl)
theorem Top.f_Shaped_spot_of (T : Top K mg) : ∃ fd, FnP K "spot_of" "Shaped.spot_of" s_Shaped_spot_of (He.ma K (He.ga K "Shaped") "spot_of") fd := T.says.def_ 46 (d := d_Shaped_spot_of) (by rfl)
theorem Top.f_Shaped_closing_from (T : Top K mg) : ∃ fd, FnP K "closing_from" "Shaped.closing_from" s_Shaped_closing_from (He.ma K (He.ga K "Shaped") "closing_from") fd := T.says.def_ 47 (d := d_Shaped_closing_from) (by rfl)
theorem Top.f_Shaped_back_to (T : Top K mg) : ∃ fd, FnP K "back_to" "Shaped.back_to" s_Shaped_back_to (He.ma K (He.ga K "Shaped") "back_to") fd := T.says.def_ 48 (d := d_Shaped_back_to) (by rfl)
theorem Top.f_Shaped_knot_at (T : Top K mg) : ∃ fd, FnP K "knot_at" "Shaped.knot_at" s_Shaped_knot_at (He.ma K (He.ga K "Shaped") "knot_at") fd := T.says.def_ 49 (d := d_Shaped_knot_at) (by rfl)
theorem Top.f_Shaped_row_place (T : Top K mg) : ∃ fd, FnP K "row_place" "Shaped.row_place" s_Shaped_row_place (He.ma K (He.ga K "Shaped") "row_place") fd := T.says.def_ 50 (d := d_Shaped_row_place) (by rfl)
theorem Top.f_Shaped_elder (T : Top K mg) : ∃ fd, FnP K "elder" "Shaped.elder" s_Shaped_elder (He.ma K (He.ga K "Shaped") "elder") fd := T.says.def_ 51 (d := d_Shaped_elder) (by rfl)
theorem Top.f_Shaped_depth (T : Top K mg) : ∃ fd, FnP K "depth" "Shaped.depth" s_Shaped_depth (He.ma K (He.ga K "Shaped") "depth") fd := T.says.def_ 52 (d := d_Shaped_depth) (by rfl)
theorem Top.f_Shaped_ends_of (T : Top K mg) : ∃ fd, FnP K "ends_of" "Shaped.ends_of" s_Shaped_ends_of (He.ma K (He.ga K "Shaped") "ends_of") fd := T.says.def_ 53 (d := d_Shaped_ends_of) (by rfl)
theorem Top.f_Shaped_beneath (T : Top K mg) : ∃ fd, FnP K "beneath" "Shaped.beneath" s_Shaped_beneath (He.ma K (He.ga K "Shaped") "beneath") fd := T.says.def_ 54 (d := d_Shaped_beneath) (by rfl)
theorem Top.f_Shaped_children (T : Top K mg) : ∃ fd, FnP K "children" "Shaped.children" s_Shaped_children (He.ma K (He.ga K "Shaped") "children") fd := T.says.def_ 55 (d := d_Shaped_children) (by rfl)
theorem Top.f_Shaped_shape (T : Top K mg) : ∃ fd, FnP K "shape" "Shaped.shape" s_Shaped_shape (He.ma K (He.ga K "Shaped") "shape") fd := T.says.def_ 56 (d := d_Shaped_shape) (by rfl)
theorem Top.f_Shaped_cut (T : Top K mg) : ∃ fd, FnP K "cut" "Shaped.cut" s_Shaped_cut (He.ma K (He.ga K "Shaped") "cut") fd := T.says.def_ 57 (d := d_Shaped_cut) (by rfl)
theorem Top.f_Shaped_graft (T : Top K mg) : ∃ fd, FnP K "graft" "Shaped.graft" s_Shaped_graft (He.ma K (He.ga K "Shaped") "graft") fd := T.says.def_ 58 (d := d_Shaped_graft) (by rfl)
end
/-! ### the head -/
abbrev RowK : PySem.W.OpenRow := PySem.W.OpenLaw.row PySem.Challenge.rw_tightwood_k76_pieces_that_stay
abbrev hookK : PySem.W.Hook := He.hookD 4 fa fn
def obK (s : PySem.W.SharedT) : He.AlD := He.obsDG 4 fa fn (HandSHeadRun.getT s)
theorem obK_eq (s : PySem.W.SharedT) : obK s = hookK.obs s.abs := He.obsDG_eq (HandSHeadRun.getT_eq s)
set_option maxHeartbeats 0 in
theorem runK (w : World) : HandSHeadRun.RunEq RowK (PySem.W.view RowK.prog [70]) hookK obK 12000 lo w := by
  intro os
  kernel_rfl
section
abbrev tl (x : Str) : List Nat := x.cps.toList
theorem len_tl (x : Str) : x.length = (tl x).length := TL.len_tl x
theorem ext_tl {x y : Str} (h : tl x = tl y) : x = y := TL.ext_tl h
theorem tl_append (x y : Str) : tl (x ++ y) = tl x ++ tl y := TL.tl_append x y

/-! ### rules of our own -/
section
variable {X : Cx} {a b c e o : Expr} {ta tb tc te to : TE} {pos pos' apos : Pos}
/-- [a, b][c]: the list itself is not tracked -/
def tPick (ta tb tc : TE) : TE := fun σ H Q => ta σ H fun x H1 => tb σ H1 fun y H2 => tc σ H2 fun i H3 => ∃ k : Bool, i = .int (if k then 1 else 0) ∧ Q (if k then y else x) H3
theorem pe_pick (ha : PE X a ta) (hb : PE X b tb) (hc : PE X c tc) (hs : PlainIx c := by exact fun _ _ => rfl)
    (h1 : starEach [a, b] X.env = (false, eval a X.env) :: starEach [b] X.env := by rfl) (h2 : starEach [b] X.env = (false, eval b X.env) :: starEach [] X.env := by rfl) :
    PE X (.Subscript (.List [a, b] pos') c pos) (tPick ta tb tc) := by
  refine ⟨fun pins s σ H Q I h => ?_⟩
  have hab : PA X [a, b] (tCons ta (tCons tb tNil)) := pa_cons ha (pa_cons hb pa_nil h2) h1
  refine Subscript_ (wpAny_List_spliced (thn (hab.run pos' pins s σ H (fun xs H2 => ∃ x y, xs = [x, y] ∧ tc σ H2 fun i H3 => ∃ k : Bool, i = .int (if k then 1 else 0) ∧ Q (if k then y else x) H3) I ?_) fun us s1 hh => ?_))
  · refine (show ta σ H fun x H1 => tb σ H1 fun y H2 => ∃ x' y', [x, y] = [x', y'] ∧ tc σ H2 fun i H3 => ∃ k : Bool, i = .int (if k then 1 else 0) ∧ Q (if k then y' else x') H3 from ?_)
    have e : (fun x H1 => tb σ H1 fun y H2 => tc σ H2 fun i H3 => ∃ k : Bool, i = .int (if k then 1 else 0) ∧ Q (if k then y else x) H3) =
        fun x H1 => tb σ H1 fun y H2 => ∃ x' y', [x, y] = [x', y'] ∧ tc σ H2 fun i H3 => ∃ k : Bool, i = .int (if k then 1 else 0) ∧ Q (if k then y' else x') H3 := by
      funext x H1
      congr 1
      funext y H2
      refine propext ⟨fun q => ⟨x, y, rfl, q⟩, fun ⟨x', y', e, q⟩ => ?_⟩
      have e1 : x = x' := (List.cons.inj e).1
      have e2 : y = y' := (List.cons.inj (List.cons.inj e).2).1
      subst e1 e2
      exact q
    rw [← e]
    exact h
  · obtain ⟨xs, H1, I1, r, x, y, rfl, q⟩ := hh
    obtain ⟨u, w, rfl, ru, rw'⟩ := vals2 r
    refine ⟨by show 2 ≤ sizeLine; decide, ?_⟩
    have I2 : Inv X pins σ H1 { s1 with heap := s1.heap.push { cls := .type "list", data := .seq [u, w].toArray } } := I1.kept (t' := s1.toks) fun b o e => Heap.get?_push_of_some _ e
    have I3 : Inv X ((s1.heap.objs.size, { cls := .type "list", data := .seq [u, w].toArray }) :: pins) σ H1 { s1 with heap := s1.heap.push { cls := .type "list", data := .seq [u, w].toArray } } :=
      I2.pins_of fun p hp => by
        rcases List.mem_cons.mp hp with rfl | hp
        · refine ⟨Heap.get?_push_size _ rfl, I1.hok.fresh (Nat.le_refl _), Nat.ne_of_gt I1.lt, I1.nofs (Nat.le_refl _), fun v z => by cases z⟩
        · exact I2.pin p (List.mem_append_right _ hp)
    refine thn (hc.run _ _ σ H1 _ I3 q) fun j s4 ⟨yv, H4, I4, rj, k, ek, qk⟩ => ?_
    subst ek
    obtain ⟨t, rfl⟩ := rj
    obtain ⟨g1, _⟩ := I4.pin (s1.heap.objs.size, { cls := .type "list", data := .seq [u, w].toArray }) (List.mem_append_right _ (List.mem_cons_self ..))
    have hl : s4.heap.IsList s1.heap.objs.size [u, w].toArray := ⟨_, g1, rfl, _, rfl⟩
    have I5 : Inv X pins σ H4 s4 := I4.pins_of fun p hp => I4.pin p (List.mem_append_right _ (List.mem_cons_of_mem _ hp))
    cases k with
    | true => exact item_listR hl (by decide) (by decide) (x := w) rfl ⟨y, H4, I5, rw', qk⟩ (hs _ _)
    | false => exact item_listR hl (by decide) (by decide) (x := u) rfl ⟨x, H4, I5, ru, qk⟩ (hs _ _)
end

/-! ### rows of signs as texts -/
def sg (b : Bool) : Nat := if b then 49 else 48
def S (l : List Bool) : Str := ⟨(l.map sg).toArray⟩
theorem tl_S (l : List Bool) : tl (S l) = l.map sg := rfl
theorem sg_inj {a b : Bool} (h : sg a = sg b) : a = b := by
  cases a <;> cases b <;> first | rfl | (exact absurd h (by decide))
theorem map_sg_inj : ∀ {l m : List Bool}, l.map sg = m.map sg → l = m
  | [], [], _ => rfl
  | [], _ :: _, h => by cases h
  | _ :: _, [], h => by cases h
  | a :: l, b :: m, h => by
    have h1 := List.cons.inj h
    rw [sg_inj h1.1, map_sg_inj h1.2]
theorem S_inj {l m : List Bool} (h : S l = S m) : l = m := map_sg_inj (by rw [← tl_S, ← tl_S, h])
theorem S_len (l : List Bool) : (S l).length = l.length := by rw [len_tl, tl_S, List.length_map]
theorem S_size (l : List Bool) : (S l).cps.size = l.length := S_len l
theorem S_app (l m : List Bool) : S l ++ S m = S (l ++ m) := ext_tl (by rw [tl_append, tl_S, tl_S, tl_S, List.map_append])
theorem S_nil : ("" : Str) = S [] := by decide +kernel
theorem S_zero : ("0" : Str) = S [false] := by decide +kernel
theorem S_one : ("1" : Str) = S [true] := by decide +kernel
theorem S_sign (b : Bool) : (⟨#[sg b]⟩ : Str) = S [b] := rfl
theorem S_at (l : List Bool) (i : Nat) : (S l).cps[i]? = l[i]?.map sg := by
  have e : (S l).cps[i]? = (tl (S l))[i]? := by simp [tl]
  rw [e, tl_S, List.getElem?_map]
theorem S_is1 (b : Bool) : decide (V.str (S [b]) = V.str (S [true])) = b := by
  cases b
  · exact decide_eq_false fun h => by
      have := S_inj (V.str.inj h)
      cases this
  · exact decide_eq_true rfl
theorem S_cut (l : List Bool) (lo hi : Option Int) : cutS (S l) lo hi = S ((l.drop (HT.sIx l.length 0 lo)).take (HT.sIx l.length l.length hi - HT.sIx l.length 0 lo)) := by
  unfold cutS
  refine ext_tl ?_
  rw [S_len]
  show (List.take _ (List.drop _ (tl (S l)))) = _
  rw [tl_S, tl_S, List.map_take, List.map_drop]
end
section
/-! ### data by values -/
def plainV : V → Bool
  | .int _ => true
  | .str x => PyData.strOk x
  | _ => false
def pdOf : V → PyData
  | .int i => .int i
  | .str x => .str x
  | _ => .none
theorem pd_shape {v : V} (h : plainV v = true) : (pdOf v).canLay0 = true ∧ (pdOf v).depth = 0 := by
  cases v with
  | int i => simp [pdOf, PyData.canLay0, PyData.depth]
  | str x => exact ⟨by simpa [pdOf, PyData.canLay0, plainV] using h, by simp [pdOf, PyData.depth]⟩
  | _ => cases h
theorem pds_shape : ∀ {vs : List V}, vs.all plainV = true → PyData.canLayAll0 (vs.map pdOf) = true ∧ PyData.depthAll (vs.map pdOf) = 0
  | [], _ => by simp [PyData.canLayAll0, PyData.depthAll]
  | v :: vs, h => by
    have hh : plainV v = true ∧ vs.all plainV = true := by simpa using h
    have h1 := pd_shape hh.1
    have h2 := pds_shape hh.2
    simp [PyData.canLayAll0, PyData.depthAll, h1.1, h1.2, h2.1, h2.2]
theorem pdl_shaped {vs : List V} (h : vs.all plainV = true) : SeqAt.shaped (.list (vs.map pdOf)) = true := by
  have h := pds_shape h
  simp [SeqAt.shaped, PyData.canLay0, PyData.depth, h.1, h.2]
theorem strOk_S (l : List Bool) : PyData.strOk (S l) = true := by
  unfold PyData.strOk
  rw [Array.all_eq_true_iff_forall_mem]
  intro x hx
  have h1 : x ∈ l.map sg := by
    rw [← tl_S]
    exact Array.mem_toList_iff.mpr hx
  obtain ⟨b, _, rfl⟩ := List.mem_map.mp h1
  cases b <;> decide
theorem plain_ints (ns : List Int) : (ns.map V.int).all plainV = true := by
  rw [List.all_eq_true]
  intro v hv
  obtain ⟨i, _, rfl⟩ := List.mem_map.mp hv
  rfl
theorem plain_rows (ps : List (List Bool)) : (ps.map fun l => V.str (S l)).all plainV = true := by
  rw [List.all_eq_true]
  intro v hv
  obtain ⟨i, _, rfl⟩ := List.mem_map.mp hv
  exact strOk_S i
theorem dp_plain {K : PySem.W.Frag} {H : Hp} : ∀ {xs : List V}, xs.all plainV = true → DpAll K H xs (xs.map pdOf)
  | [], _ => .nil
  | v :: xs, h => by
    have h1 : plainV v = true ∧ xs.all plainV = true := by simpa using h
    have q := dp_plain (K := K) (H := H) h1.2
    cases v with
    | int i => exact .cons (.int i) q
    | str i => exact .cons (.str i) q
    | _ => simp [plainV] at h1
theorem eqv_nil (ds : List PyData) : PyData.eqv (.list ds) (.list []) = ds.isEmpty := by
  cases ds <;> simp [PyData.eqv, PyData.eqvAll]
section
variable {X : Cx} {a b c e o : Expr} {ta tb tc te to : TE} {pos pos' apos : Pos}
/-- x == [], x != [], x a list of ints or of texts: the empty list is not tracked -/
def nilK (neg : Bool) (x : V) (H : Hp) (Q : VK) : Prop := ∃ p xs, x = .ref p ∧ H p = some (.lst xs) ∧ xs.all plainV = true ∧ Q (.bl (if neg then !xs.isEmpty else xs.isEmpty)) H
def tNil' (neg : Bool) (ta : TE) : TE := fun σ H Q => ta σ H fun x H1 => nilK neg x H1 Q
theorem pc_nil {op : CmpOp} {neg : Bool} (hop : (op = .Eq ∧ neg = false) ∨ (op = .NotEq ∧ neg = true)) (hu : X.A.units + 64 < cLine) (ha : PE X a ta) (h0 : starEach [] X.env = [] := by rfl) : PC X op a (.List [] pos') (tNil' neg ta) := by
  refine ⟨fun pins s σ H Q I h => ?_⟩
  refine thn (ha.run pins s σ H _ I h) fun v s1 ⟨x, H1, I1, r1, p, xs, ex, hp, hx, q⟩ => ?_
  subst ex
  cases r1
  refine wpAny_List_spliced (thn ((pa_nil (X := X)).run pos' pins s1 σ H1 (fun vs H2 => vs = [] ∧ H2 = H1) I1 ⟨rfl, rfl⟩) fun us s2 ⟨vs, H2, I2, r2, e1, e2⟩ => ?_)
  subst e1 e2
  cases r2
  refine ⟨Nat.zero_le _, ?_⟩
  have I3 : Inv X pins σ H2 { s2 with heap := s2.heap.push { cls := .type "list", data := .seq ([] : List Value).toArray } } := I2.kept (t' := s2.toks) fun b o e => Heap.get?_push_of_some _ e
  obtain ⟨as, ra⟩ := Dp.reads I3 _ _ _ (Dp.lst (SqL.of hp) (dp_plain hx)) rfl
  have rb : Reads (s2.heap.push { cls := .type "list", data := .seq ([] : List Value).toArray }) (.ref s2.heap.objs.size) (.list []) _ :=
    Reads.list (Heap.get?_push_size _ rfl) rfl rfl ReadsAll.nil
  rcases hop with ⟨e1, e2⟩ | ⟨e1, e2⟩
  · subst e1 e2
    refine SeqAt.compareEq_shaped ra rb (pdl_shaped hx) (pdl_shaped (vs := []) rfl) hu ⟨.bl _, H2, I3, rfl, ?_⟩
    rw [eqv_nil]
    cases xs <;> exact q
  · subst e1 e2
    refine SeqAt.compareNe_shaped ra rb (pdl_shaped hx) (pdl_shaped (vs := []) rfl) hu ⟨.bl _, H2, I3, rfl, ?_⟩
    rw [eqv_nil]
    cases xs <;> exact q
/-- text * int -/
def rMulS : R2 := fun x y H Q => ∃ (b : Bool) (n : Nat), x = .str (S [b]) ∧ y = .int (n : Int) ∧ n ≤ 100000 ∧ Q (.str (S (List.replicate n b))) H
theorem mul_one (b : Bool) (n : Nat) : Txt.mul (S [b]) (n : Int) = S (List.replicate n b) := by
  unfold Txt.mul
  by_cases h1 : (n : Int) < 1
  · have e : n = 0 := by omega
    subst e
    rfl
  · rw [if_neg h1]
    by_cases h2 : n = 1
    · subst h2
      rfl
    · rw [if_neg (by
        rw [S_len]
        simp
        omega)]
      have main : ∀ (m : Nat) (acc : Array Nat), ((List.replicate m (S [b]).cps).foldl (· ++ ·) acc).toList = acc.toList ++ List.replicate m (sg b) := by
        intro m
        induction m with
        | zero => intro acc; simp
        | succ m ih =>
          intro acc
          rw [List.replicate_succ, List.foldl_cons, ih]
          have e : (acc ++ (S [b]).cps).toList = acc.toList ++ [sg b] := by simp [S]
          rw [e, List.replicate_succ, List.append_assoc]
          rfl
      refine ext_tl ?_
      show ((List.replicate (n : Int).toNat (S [b]).cps).foldl (· ++ ·) #[]).toList = _
      rw [main, tl_S, List.map_replicate]
      simp
theorem op_mulS : OpR X (binaryOp .Mult) rMulS := by
  intro pins s σ H x y v u Q I rx ry h
  obtain ⟨b, n, rfl, rfl, hn, q⟩ := h
  obtain ⟨t, rfl⟩ := rx
  obtain ⟨t', rfl⟩ := ry
  refine SB.mul ⟨?_, ?_, ?_⟩ fun t' k => ⟨.str _, H, I.tok k, ⟨t', rfl⟩, ?_⟩
  · simp only [Bool.or_eq_false_iff, decide_eq_false_iff_not]
    constructor <;> omega
  · intro h1 h2
    rw [S_len]
    have : (1 : Int) ≤ (2 ^ 63 - 1) / (n : Int) := by
      rw [Int.le_ediv_iff_mul_le (by omega)]
      omega
    show ¬ (((1 : Nat) : Int) > _)
    omega
  · intro h1 h2
    rw [S_len]
    show PySem.Builtin.Str.tooLong (1 * (n : Int).toNat) = false
    rw [Nat.one_mul, Int.toNat_natCast]
    have e : n ≤ sizeLine := Nat.le_trans hn (by decide)
    unfold PySem.Builtin.Str.tooLong
    first
      | exact decide_eq_false (by omega)
      | simpa using e
  · rw [mul_one]
    exact q
end
end
section
/-! ### enumerate(text) -/
def Itse (x : Str) : It :=
  ⟨fun i _ => i < x.cps.size, fun i H v H' => ∃ T c, v = .ref T ∧ H T = none ∧ H' = upd H T (.tup [.int (i : Nat), .str ⟨#[c]⟩]) ∧ x.cps[i]? = some c, fun i _ => i = x.cps.size⟩
theorem turn_enumS {P : Program} {w : World} {K : PySem.W.Frag} {elts : List Expr} {kk : Nat} {tpos : Pos} (e it : Addr) (x : Str) (t : Tok) (ty : String) (hty : ty = "str_ascii_iterator" ∨ ty = "str_iterator") :
    Turn P w K (.Tuple elts kk tpos) (Itse x) [e, it] e (fun i h => (∃ old, IsEnum h e it ((i : Nat) : Int) old) ∧ h.IsStrIter it ty x t i ∧ e ≠ it) where
  mem := by simp
  obj := fun i h st b hb => by
    obtain ⟨⟨old, he⟩, ⟨o, ho, hc, hd⟩, _⟩ := st
    have e' : b = e ∨ b = it := by simpa using hb
    rcases e' with z | z
    · rw [z]; exact ⟨_, he, fun v q => nomatch q⟩
    · rw [z]; exact ⟨o, ho, fun v q => by rw [hd] at q; cases q⟩
  keep := fun i h h' st k => by
    obtain ⟨⟨old, he⟩, ⟨o, ho, r⟩, hne⟩ := st
    exact ⟨⟨old, k e (by simp) _ he⟩, ⟨o, k it (by simp) o ho, r⟩, hne⟩
  item := by
    intro X hP hw hK hc i pins s σ H E I hf st hg
    subst hP hw hK
    obtain ⟨⟨old, he⟩, hit, hne⟩ := st
    have hel : e < s.heap.objs.size := Heap.lt_size he
    have hil : it < s.heap.objs.size := by obtain ⟨_, q, _⟩ := hit; exact Heap.lt_size q
    have D : Draws X.prog X.w X.A.in1 it [it] x.cps.size (fun i v => ∃ c u, x.cps[i]? = some c ∧ v = .str ⟨#[c]⟩ u) (fun i h => h.IsStrIter it ty x t i) := by
      rcases hty with z | z
      · rw [z]; exact Draws.strAscii (A := X.A.in1) (show X.A.in1.handled = none from I.ok.hd hc) it x t
      · rw [z]; exact Draws.strWide (A := X.A.in1) (show X.A.in1.handled = none from I.ok.hd hc) it x t
    refine wpAny_pyNext_enum_itemC D he hit hg hne (by simpa using hne) fun v h' tk hv ho hit' hT hsz hk => ?_
    obtain ⟨c, u, hcx, rfl⟩ := hv
    refine ⟨_, rfl, wpAny_letOwnedTupleGo_enum (s := { s with heap := h', toks := tk + 1 }) ho fun h'' he' sb => ?_⟩
    have hT2 : h''.get? s.heap.objs.size = some { cls := .type "tuple", data := .seq #[.int i tk, .str ⟨#[c]⟩ u] } := (sb.2 _ (Nat.ne_of_gt hel)).trans hT
    have new : ObjOk X.prog X.w (upd H s.heap.objs.size (.tup [.int (i : Nat), .str ⟨#[c]⟩])) h'' s.heap.objs.size (.tup [.int (i : Nat), .str ⟨#[c]⟩]) :=
      ⟨by show 2 ≤ sizeLine; decide, [.int i tk, .str ⟨#[c]⟩ u], .cons ⟨_, rfl⟩ (.cons ⟨_, rfl⟩ .nil), ⟨_, hT2, rfl, _, rfl⟩⟩
    have I1 : Inv X pins σ (upd H s.heap.objs.size (.tup [.int (i : Nat), .str ⟨#[c]⟩])) { s with heap := h'', toks := tk + 1 } :=
      I.turnedNew (ch := [e, it]) (fun b ob hb q => (sb.2 b (fun z => hb (by simp [z]))).trans (hk b ob (fun z => hb (by simp [z])) (fun z => hb (by simp [z])) q)) hf (Nat.le_refl _) new
    refine ⟨.ref s.heap.objs.size, _, I1, rfl, ⟨_, c, rfl, I.hok.fresh (Nat.le_refl _), rfl, hcx⟩, ⟨⟨Value.str ⟨#[c]⟩ u, ?_⟩, ?_, hne⟩, fun b hb => ?_⟩
    · have e1 : ((i + 1 : Nat) : Int) = (i : Int) + 1 := by omega
      rw [e1]; exact he'
    · obtain ⟨o, ho2, r⟩ := hit'
      exact ⟨o, (sb.2 it (Ne.symm hne)).trans ho2, r⟩
    · have hb' : b < s.heap.objs.size := by
        have e' : b = e ∨ b = it := by simpa using hb
        rcases e' with z | z
        · rw [z]; exact hel
        · rw [z]; exact hil
      rw [upd_ne (Nat.ne_of_lt hb')]
      exact (hf b hb).1
  done := by
    intro X hP hw hK hc i pins s σ H E I hf st hg
    subst hP hw hK
    obtain ⟨⟨old, he⟩, hit, hne⟩ := st
    obtain ⟨f0, f1, f2, f3, f4, f5⟩ := hf it (by simp)
    have ei : i = x.cps.size := hg
    subst ei
    have D : Draws X.prog X.w X.A.in1 it [it] x.cps.size (fun i v => ∃ c u, x.cps[i]? = some c ∧ v = .str ⟨#[c]⟩ u) (fun i h => h.IsStrIter it ty x t i) := by
      rcases hty with z | z
      · rw [z]; exact Draws.strAscii (A := X.A.in1) (show X.A.in1.handled = none from I.ok.hd hc) it x t
      · rw [z]; exact Draws.strWide (A := X.A.in1) (show X.A.in1.handled = none from I.ok.hd hc) it x t
    exact wpAny_pyNext_enum_endD D he hit fun h' eb => ⟨rfl, I.turned (t' := s.toks) (fun b o hb q => eb b o hb q) f0 f1 f3 f4 f5⟩
  self := fun A i s Q E st h => let ⟨⟨_, he⟩, _⟩ := st; wpAny_pyIter_enum he h
def iEnumS (ta : TA) : TI := fun σ H R => ta σ H fun vs H1 => ∃ x, vs = [.str x] ∧ R (Itse x) H1
theorem pi_enumS {X : Cx} {e : Expr} {ta : TA} {p pos tpos : Pos} {elts : List Expr} {kk : Nat} (hg : Gl X "enumerate") (hm : X.mg "enumerate" = none) (ha : PA X [e] ta) (hs : starEach [e] X.env = [(false, eval e X.env)] := by rfl) :
    PI X (.Tuple elts kk tpos) (.Call (.Name "enumerate" p) [e] [] pos) (iEnumS ta) := by
  refine ⟨fun pins s σ H R I h => ?_⟩
  refine Call_ (ld_blt I hg hm boot_enumerate (PyProof.Rows.callWith_type1 (thn (ha.run pos pins s σ H _ I h) fun us s1 ⟨vs, H1, I1, r1, q1⟩ => ?_) hs rfl))
  obtain ⟨x, ex, q⟩ := q1
  subst ex
  cases r1 with
  | cons r rr =>
    cases rr
    obtain ⟨t, rfl⟩ := r
    refine call_enumerate_str fun h' he hit hsz hk => wpAny_pyIter_enum he ?_
    have I2 : Inv X pins σ H1 { s1 with heap := h' } := I1.kept (t' := s1.toks) hk
    have hty : strIterType x = "str_ascii_iterator" ∨ strIterType x = "str_iterator" := by
      unfold strIterType
      split
      · exact .inl rfl
      · exact .inr rfl
    refine ⟨s1.heap.objs.size + 1, [s1.heap.objs.size + 1, s1.heap.objs.size], _, _, H1, rfl, I2, turn_enumS (s1.heap.objs.size + 1) s1.heap.objs.size x t _ hty, ⟨⟨.none, he⟩, hit, Nat.succ_ne_self _⟩, fun b hb => ?_, q⟩
    have e' : b = s1.heap.objs.size + 1 ∨ b = s1.heap.objs.size := by simpa using hb
    have hle : s1.heap.objs.size ≤ b := by
      rcases e' with z | z
      · rw [z]; exact Nat.le_add_right _ _
      · rw [z]; exact Nat.le_refl _
    exact I1.fpOk hle (I1.hok.fresh hle)
end
section
abbrev St := L2.St
/-! ### operators by names -/
def rAddI : R2 := rI0 fun i j => .int (i + j)
def rSubI : R2 := rI0 fun i j => .int (i - j)
def rMulI : R2 := rI CMul fun i j => .int (i * j)
def rDivI : R2 := rI CDiv fun i j => .int (i / j)
def rModI : R2 := rI (fun _ j => 0 < j) fun i j => .int (i % j)
def rAndI : R2 := rI0 fun i j => .int (Builtin.bitAnd i j)
def rOrI : R2 := rI0 fun i j => .int (Builtin.bitOr i j)
def rShlI : R2 := rI CPow fun i j => .int (i * 2 ^ j.toNat)
def rShrI : R2 := rI (fun _ j => 0 ≤ j) fun i j => .int (i / 2 ^ j.toNat)
def rNegI : V → Hp → VK → Prop := rU fun i => .int (-i)
def rLt : R2 := rI0 fun i j => .bl (decide (i < j))
def rLe : R2 := rI0 fun i j => .bl (decide (i ≤ j))
def rGt : R2 := rI0 fun i j => .bl (decide (j < i))
def rGe : R2 := rI0 fun i j => .bl (decide (j ≤ i))
def rAddS : R2 := fun x y H Q => ∃ i j, x = .str i ∧ y = .str j ∧ i.length + j.length ≤ sizeLine ∧ Q (.str (i ++ j)) H
def rIsN : R2 := fun x y H Q => y = .non ∧ Q (.bl (decide (x = .non))) H
def rNotN : R2 := fun x y H Q => y = .non ∧ Q (.bl (!decide (x = .non))) H
def rInS : R2 := fun x y H Q => ∃ (c : Nat) (z : Str), x = .str ⟨#[c]⟩ ∧ y = .str z ∧ Q (.bl (decide (c ∈ z.cps.toList))) H
def rNotInS : R2 := fun x y H Q => ∃ (c : Nat) (z : Str), x = .str ⟨#[c]⟩ ∧ y = .str z ∧ Q (.bl (!decide (c ∈ z.cps.toList))) H
def cLenL (K : PySem.W.Frag) : List V → Hp → VK → Prop := fun xs H Q => ∃ p ys, xs = [.ref p] ∧ (SqL K H p ys ∨ SqT K H p ys) ∧ Q (.int ys.length) H
def cLenS : List V → Hp → VK → Prop := fun xs H Q => ∃ z, xs = [.str z] ∧ z.length ≤ sizeLine ∧ Q (.int z.length) H
def cAbs : List V → Hp → VK → Prop := fun xs H Q => ∃ i, xs = [.int i] ∧ Q (.int (if i < 0 then -i else i)) H
def cMax2 : List V → Hp → VK → Prop := fun xs H Q => ∃ i j, xs = [.int i, .int j] ∧ Q (.int (if j > i then j else i)) H
def cMin2 : List V → Hp → VK → Prop := fun xs H Q => ∃ i j, xs = [.int i, .int j] ∧ Q (.int (if j < i then j else i)) H
def cInt : List V → Hp → VK → Prop := fun xs H Q => (∃ i, xs = [.int i] ∧ Q (.int i) H) ∨ ∃ k, xs = [.bl k] ∧ Q (.int (if k then 1 else 0)) H
def cIntS : List V → Hp → VK → Prop := fun xs H Q => ∃ a n, xs = [.str a] ∧ PySem.intText? a = some n ∧ a.length ≤ 640 ∧ Q (.int n) H
def cStrI : List V → Hp → VK → Prop := fun xs H Q => ∃ i, xs = [.int i] ∧ i.natAbs.log2 < 1920 ∧ Q (.str (toString i)) H
def cListOf (K : PySem.W.Frag) : List V → Hp → VK → Prop := fun xs H Q => ∃ p ys, xs = [.ref p] ∧ (SqL K H p ys ∨ SqT K H p ys) ∧ ∀ l, H l = none → Q (.ref l) (upd H l (.lst ys))
def cTupOf (K : PySem.W.Frag) : List V → Hp → VK → Prop := fun xs H Q => ∃ p ys, xs = [.ref p] ∧ ((SqL K H p ys ∧ ∀ l, H l = none → Q (.ref l) (upd H l (.tup ys))) ∨ (SqT K H p ys ∧ Q (.ref p) H))
section
variable {X : Cx}
theorem op_isN' : OpR X (compareOp .Is) rIsN := op_isN
theorem op_notN' : OpR X (compareOp .IsNot) rNotN := op_notN
theorem op_inS : OpR X (compareOp .In) rInS := op_in_sign
theorem op_notInS : OpR X (compareOp .NotIn) rNotInS := op_notIn_sign
theorem op_addS : OpR X (binaryOp .Add) rAddS := op_add_str
end
/-! ### a def that stands ready -/
def tCl (sp : Sp) (t : TA) : TE := fun σ H Q => t σ H fun vs H1 => sp vs H1 Q E0
def tMt (C : Addr) (m : Str) (sp : Sp) (to : TE) (t : TA) : TE := fun σ H Q => to σ H fun x H1 => ∃ a dx fs, x = .ref a ∧ H1 a = some (.ins C dx fs) ∧ fs.lookup m = none ∧ t σ H1 fun vs H2 => sp (x :: vs) H2 Q E0
def tMk (C : Addr) (sp : Sp) (t : TA) : TE := fun σ H Q => t σ H fun vs H1 => ∀ x dx, H1 x = none → H1 dx = none → dx ≠ x →
  sp (.ref x :: vs) (upd (upd H1 dx (.own x)) x (.ins C dx [])) (fun v H2 => v = .non ∧ Q (.ref x) H2) E0
structure Rdy (P : Program) (w : World) (K : PySem.W.Frag) (mg : Str → Option Value) (base : Heap) (x : Str) (k : Nat) (ps : List Str) (sp : Sp) : Prop where
  ex : ∃ fd, mg x = some (.ref (He.ga K x)) ∧ PySem.W.keepIn K (.ref (He.ga K x)) = true ∧ Binds K fd ps [] ∧ FnOk P w K mg base CX0 k (He.ga K x) fd ps sp
structure RdyM (P : Program) (w : World) (K : PySem.W.Frag) (mg : Str → Option Value) (base : Heap) (C m : Str) (k : Nat) (ps : List Str) (sp : Sp) : Prop where
  ex : ∃ fd, Cls K (He.ga K C) ∧ Meth K (He.ga K C) m (He.ma K (He.ga K C) m) ∧ Binds K fd ps [] ∧ FnOk P w K mg base CX0 k (He.ma K (He.ga K C) m) fd ps sp
structure RdyI (P : Program) (w : World) (K : PySem.W.Frag) (mg : Str → Option Value) (base : Heap) (C : Str) (k : Nat) (ps : List Str) (sp : Sp) : Prop where
  ex : ∃ fd, mg C = some (.ref (He.ga K C)) ∧ Mk K (He.ga K C) (He.ma K (He.ga K C) "__init__") ∧ Binds K fd ps [] ∧ FnOk P w K mg base CX0 k (He.ma K (He.ga K C) "__init__") fd ps sp
section
variable {X : Cx} {k : Nat} {x C m : Str} {ps : List Str} {sp : Sp} {p pos apos : Pos} {e o : Expr} {es : List Expr} {to : TE} {t : TA}
theorem pe_f (R : Rdy X.prog X.w X.K X.mg X.base x k ps sp) (hr : Room k X.A) (ha : PA X (e :: es) t) (hg : Gl X x := by rfl) (hdb : (x == ("__debug__" : Str)) = false := by decide)
    (he : starEach (e :: es) X.env = (false, eval e X.env) :: starEach es X.env := by rfl) (hpl : (backTo pos (starEach es X.env)).any (·.1) = false := by rfl) : PE X (.Call (.Name x p) (e :: es) [] pos) (tCl sp t) := by
  obtain ⟨fd, h1, h2, h3, h4⟩ := R.ex
  have q := pe_call (pos := pos) (p := p) h4 hr hg h1 h2 h3 .nil pass0 ha hdb he hpl
  have e1 : tCall sp [] E0 t = tCl sp t := by
    funext σ H Q
    unfold tCall tCl
    simp only [List.append_nil]
  rw [e1] at q
  exact q
theorem pe_m {pl : Sem Bool} (R : RdyM X.prog X.w X.K X.mg X.base C m k ps sp) (hr : Room k X.A) (ho : PE X o to) (ha : PA X (e :: es) t)
    (hst : starEach (e :: es) X.env = (false, eval e X.env) :: starEach es X.env := by rfl) (hpl : (backTo pos (starEach es X.env)).any (·.1) = false := by rfl)
    (ht : eval (.Call (.Attribute o m apos) (e :: es) [] pos) X.env = (do
      let ov ← eval o X.env
      standAt apos.atName
      let (f, first) ← holding [ov] (getMethod ov m pl)
      callWith pos f first (backTo pos (starEach (e :: es) X.env)) (backToKw pos (keywordEach [] X.env))) := by rfl) : PE X (.Call (.Attribute o m apos) (e :: es) [] pos) (tMt (He.ga X.K C) m sp to t) := by
  obtain ⟨fd, h1, h2, h3, h4⟩ := R.ex
  have q := pe_meth (pl := pl) ho h1 h2 h4 hr h3 .nil pass0 ha hst hpl ht
  have e1 : tMeth (He.ga X.K C) m sp [] E0 to t = tMt (He.ga X.K C) m sp to t := by
    funext σ H Q
    unfold tMeth tMt
    simp only [List.append_nil]
  rw [e1] at q
  exact q
theorem pe_m0 {pl : Sem Bool} (R : RdyM X.prog X.w X.K X.mg X.base C m k ps sp) (hr : Room k X.A) (ho : PE X o to)
    (ht : eval (.Call (.Attribute o m apos) [] [] pos) X.env = (do
      let ov ← eval o X.env
      standAt apos.atName
      let (f, first) ← holding [ov] (getMethod ov m pl)
      callWith pos f first (backTo pos (starEach [] X.env)) (backToKw pos (keywordEach [] X.env))) := by rfl) : PE X (.Call (.Attribute o m apos) [] [] pos) (tMt (He.ga X.K C) m sp to tNil) := by
  obtain ⟨fd, h1, h2, h3, h4⟩ := R.ex
  have q := pe_meth0 (pl := pl) ho h1 h2 h4 hr h3 .nil pass0 ht
  have e1 : tMeth (He.ga X.K C) m sp [] E0 to tNil = tMt (He.ga X.K C) m sp to tNil := by
    funext σ H Q
    unfold tMeth tMt
    simp only [List.append_nil]
  rw [e1] at q
  exact q
theorem pe_i (R : RdyI X.prog X.w X.K X.mg X.base C k ps sp) (hr : Room (k + 1) X.A) (ha : PA X (e :: es) t) (hg : Gl X C := by rfl) (hdb : (C == ("__debug__" : Str)) = false := by decide)
    (he : starEach (e :: es) X.env = (false, eval e X.env) :: starEach es X.env := by rfl) (hpl : (backTo pos (starEach es X.env)).any (·.1) = false := by rfl) : PE X (.Call (.Name C p) (e :: es) [] pos) (tMk (He.ga X.K C) sp t) := by
  obtain ⟨fd, h1, h2, h3, h4⟩ := R.ex
  have q := pe_make (pos := pos) (p := p) h2 h4 hr hg h1 h3 .nil pass0 ha hdb he hpl
  have e1 : tMake (He.ga X.K C) sp [] E0 t = tMk (He.ga X.K C) sp t := by
    funext σ H Q
    unfold tMake tMk
    simp only [List.append_nil]
  rw [e1] at q
  exact q
end
/-! ### promises -/
/-- for arguments a (as told) of which pre holds: some value v, leaving H', with post -/
def mkSp {α : Type} (args : α → List V) (pre : α → Hp → Prop) (post : α → Hp → V → Hp → Prop) : Sp := fun vs H Q _ => ∃ a : α, vs = args a ∧ pre a H ∧ ∀ v H', post a H v H' → Q v H'
theorem mkSp.use {α : Type} {args : α → List V} {pre : α → Hp → Prop} {post : α → Hp → V → Hp → Prop} {vs : List V} {H : Hp} {Q : VK} {E : XK} (a : α) (h : vs = args a) (hp : pre a H) (q : ∀ v H', post a H v H' → Q v H') : mkSp args pre post vs H Q E := ⟨a, h, hp, q⟩
/-- a def of the text is ready when its body keeps the promise -/
theorem rdy {P : Program} {w : World} {K : PySem.W.Frag} {mg : Str → Option Value} {base : Heap} {x : Str} {st : Stmt} {N ps : List Str} {k : Nat} {α : Type} {args : α → List V} {pre : α → Hp → Prop} {post : α → Hp → V → Hp → Prop}
    (hg : mg x = some (.ref (He.ga K x))) (hF : ∃ fd, FnP K x x st (He.ga K x) fd) (S : FnScope N ps (defScope st)) (hl : ∀ a, (args a).length = ps.length)
    (hb : ∀ (kV doc pm : Value) (an : Option Addr) (cdv ct : Value) (us : List Value), us.length = ps.length → bindArgs (PySem.W.fnOf x x (defArgs st) (defBody st) (defScope st) .none kV doc pm an cdv ct) ⟨us, []⟩ = pure (ps.zip us))
    (body : ∀ (cdv : Value) (A : Around) (outer : List Env) (s : Shared) (H : Hp) (a : α) (Q : VK) (E : XK), Room k (A.deeper (envOfC x (defScope st) s.heap.objs.size (He.ga K x) cdv)) → pre a H → (∀ v H', post a H v H' → Q v H') →
      ∃ t, PSs (cxOf CX0 P w K mg base N x (defScope st) (He.ga K x) cdv A outer s H E).nox (defBody st) t ∧ t { nx := fun _ H' => Q .non H', rt := Q } (start N (args a)) H) : Rdy P w K mg base x (k + 1) ps (mkSp args pre post) := by
  obtain ⟨fd, F⟩ := hF
  refine ⟨fd, hg, F.kp, F.bindsN hb, F.ok S (fun vs H Q E h => ?_) fun cdv A outer s H vs Q E hr h => ?_⟩
  · obtain ⟨a, rfl, _⟩ := h
    exact hl a
  · obtain ⟨a, rfl, hp, q⟩ := h
    obtain ⟨t, h1, h2⟩ := body cdv A outer s H a Q E hr hp q
    exact ⟨t, h1.nox, h2⟩
theorem rdyM {P : Program} {w : World} {K : PySem.W.Frag} {mg : Str → Option Value} {base : Heap} {C m qn : Str} {st : Stmt} {N ps : List Str} {k : Nat} {α : Type} {args : α → List V} {pre : α → Hp → Prop} {post : α → Hp → V → Hp → Prop}
    (hc : Cls K (He.ga K C)) (hm : Meth K (He.ga K C) m (He.ma K (He.ga K C) m)) (hF : ∃ fd, FnP K m qn st (He.ma K (He.ga K C) m) fd) (S : FnScope N ps (defScope st)) (hl : ∀ a, (args a).length = ps.length)
    (hb : ∀ (kV doc pm : Value) (an : Option Addr) (cdv ct : Value) (us : List Value), us.length = ps.length → bindArgs (PySem.W.fnOf m qn (defArgs st) (defBody st) (defScope st) .none kV doc pm an cdv ct) ⟨us, []⟩ = pure (ps.zip us))
    (body : ∀ (cdv : Value) (A : Around) (outer : List Env) (s : Shared) (H : Hp) (a : α) (Q : VK) (E : XK), Room k (A.deeper (envOfC qn (defScope st) s.heap.objs.size (He.ma K (He.ga K C) m) cdv)) → pre a H → (∀ v H', post a H v H' → Q v H') →
      ∃ t, PSs (cxOf CX0 P w K mg base N qn (defScope st) (He.ma K (He.ga K C) m) cdv A outer s H E).nox (defBody st) t ∧ t { nx := fun _ H' => Q .non H', rt := Q } (start N (args a)) H) : RdyM P w K mg base C m (k + 1) ps (mkSp args pre post) := by
  obtain ⟨fd, F⟩ := hF
  refine ⟨fd, hc, hm, F.bindsN hb, F.ok S (fun vs H Q E h => ?_) fun cdv A outer s H vs Q E hr h => ?_⟩
  · obtain ⟨a, rfl, _⟩ := h
    exact hl a
  · obtain ⟨a, rfl, hp, q⟩ := h
    obtain ⟨t, h1, h2⟩ := body cdv A outer s H a Q E hr hp q
    exact ⟨t, h1.nox, h2⟩
theorem rdyI {P : Program} {w : World} {K : PySem.W.Frag} {mg : Str → Option Value} {base : Heap} {C qn : Str} {st : Stmt} {N ps : List Str} {k : Nat} {α : Type} {args : α → List V} {pre : α → Hp → Prop} {post : α → Hp → V → Hp → Prop}
    (hg : mg C = some (.ref (He.ga K C))) (hM : Mk K (He.ga K C) (He.ma K (He.ga K C) "__init__")) (hF : ∃ fd, FnP K "__init__" qn st (He.ma K (He.ga K C) "__init__") fd) (S : FnScope N ps (defScope st)) (hl : ∀ a, (args a).length = ps.length)
    (hb : ∀ (kV doc pm : Value) (an : Option Addr) (cdv ct : Value) (us : List Value), us.length = ps.length → bindArgs (PySem.W.fnOf "__init__" qn (defArgs st) (defBody st) (defScope st) .none kV doc pm an cdv ct) ⟨us, []⟩ = pure (ps.zip us))
    (body : ∀ (cdv : Value) (A : Around) (outer : List Env) (s : Shared) (H : Hp) (a : α) (Q : VK) (E : XK), Room k (A.deeper (envOfC qn (defScope st) s.heap.objs.size (He.ma K (He.ga K C) "__init__") cdv)) → pre a H → (∀ v H', post a H v H' → Q v H') →
      ∃ t, PSs (cxOf CX0 P w K mg base N qn (defScope st) (He.ma K (He.ga K C) "__init__") cdv A outer s H E).nox (defBody st) t ∧ t { nx := fun _ H' => Q .non H', rt := Q } (start N (args a)) H) : RdyI P w K mg base C (k + 1) ps (mkSp args pre post) := by
  obtain ⟨fd, F⟩ := hF
  refine ⟨fd, hg, hM, F.bindsN hb, F.ok S (fun vs H Q E h => ?_) fun cdv A outer s H vs Q E hr h => ?_⟩
  · obtain ⟨a, rfl, _⟩ := h
    exact hl a
  · obtain ⟨a, rfl, hp, q⟩ := h
    obtain ⟨t, h1, h2⟩ := body cdv A outer s H a Q E hr hp q
    exact ⟨t, h1.nox, h2⟩
end
section
/-! ### steps of readings -/
def isB (x : V) (H : Hp) (Q : Bool → Hp → Prop) : Prop := ∃ k, x = .bl k ∧ Q k H
def ifB (b : Bool) (A B : Prop) : Prop := if b = true then A else B
def newL (xs : List V) (H : Hp) (Q : VK) : Prop := xs.length ≤ sizeLine ∧ ∀ p, H p = none → Q (.ref p) (upd H p (.lst xs))
def newT (xs : List V) (H : Hp) (Q : VK) : Prop := xs.length ≤ sizeLine ∧ ∀ p, H p = none → Q (.ref p) (upd H p (.tup xs))
theorem same_new {H : Hp} {p : Addr} {o : HO} (h : H p = none) : Same H (upd H p o) := fun a u e => by
  rw [upd_ne (ne_of_none e h)]
  exact e
/-- an object that H does not know may change -/
theorem same_mut {H H' : Hp} {p : Addr} {o : HO} (e : Same H H') (h : H p = none) : Same H (upd H' p o) := fun a u ha => by
  rw [upd_ne (ne_of_none ha h)]
  exact e a u ha
theorem ifB_t {A B : Prop} (h : A) : ifB true A B := h
theorem ifB_f {A B : Prop} (h : B) : ifB false A B := by
  unfold ifB
  rw [if_neg Bool.false_ne_true]
  exact h
theorem ifB_of {b : Bool} {A B : Prop} (h1 : b = true → A) (h2 : b = false → B) : ifB b A B := by
  cases b with
  | true => exact h1 rfl
  | false => exact ifB_f (h2 rfl)
theorem ifB_dec {p : Prop} [Decidable p] {A B : Prop} (h1 : p → A) (h2 : ¬ p → B) : ifB (decide p) A B :=
  ifB_of (fun h => h1 (of_decide_eq_true h)) fun h => h2 (of_decide_eq_false h)
theorem ifB_ndec {p : Prop} [Decidable p] {A B : Prop} (h1 : ¬ p → A) (h2 : p → B) : ifB (!decide p) A B :=
  ifB_of (fun h => h1 (by simpa using h)) fun h => h2 (by simpa using h)
theorem ifB_y {b : Bool} {A B : Prop} (hb : b = true) (h : A) : ifB b A B := by
  subst hb
  exact h
theorem ifB_n {b : Bool} {A B : Prop} (hb : b = false) (h : B) : ifB b A B := by
  subst hb
  exact ifB_f h
section
variable {K : PySem.W.Frag} {σ : St} {H H1 : Hp} {Q : VK} {QB : Bool → Hp → Prop} {QA : List V → Hp → Prop} {QO : Option Int → Hp → Prop} {QG : St → Hp → Prop} {D : Ends} {i j : Nat} {v x y z : V} {ta tb tc te to : TE} {tt tu : TT} {ts tz : TS} {tr tA : TA} {r : R2} {g : TG} {gs : TGs} {b : Bool} {n m : Int} {xs ys : List V} {p l : Addr}
theorem go_var (h : σ[i]? = some (some v)) (q : Q v H) : tVar i σ H Q := ⟨v, h, q⟩
theorem go_c (q : Q v H) : tC v σ H Q := q
theorem go_op (q : ta σ H fun x H1 => tb σ H1 fun y H2 => r x y H2 Q) : tOp r ta tb σ H Q := q
theorem go_un {r : V → Hp → VK → Prop} (q : ta σ H fun x H1 => r x H1 Q) : tUn r ta σ H Q := q
theorem go_neg (q : Q (.int (-n)) H) : rNegI (.int n) H Q := ⟨n, rfl, q⟩
theorem go_add (q : Q (.int (n + m)) H) : rAddI (.int n) (.int m) H Q := ⟨n, m, rfl, rfl, q⟩
theorem go_sub (q : Q (.int (n - m)) H) : rSubI (.int n) (.int m) H Q := ⟨n, m, rfl, rfl, q⟩
theorem go_mul (h : CMul n m) (q : Q (.int (n * m)) H) : rMulI (.int n) (.int m) H Q := ⟨n, m, rfl, rfl, h, q⟩
theorem go_div (h : 0 < m ∧ m < 1073741824) (q : Q (.int (n / m)) H) : rDivI (.int n) (.int m) H Q := ⟨n, m, rfl, rfl, h, q⟩
theorem go_mod (h : 0 < m) (q : Q (.int (n % m)) H) : rModI (.int n) (.int m) H Q := ⟨n, m, rfl, rfl, h, q⟩
theorem go_and (q : Q (.int (Builtin.bitAnd n m)) H) : rAndI (.int n) (.int m) H Q := ⟨n, m, rfl, rfl, q⟩
theorem go_or (q : Q (.int (Builtin.bitOr n m)) H) : rOrI (.int n) (.int m) H Q := ⟨n, m, rfl, rfl, q⟩
theorem go_shl (h : CPow n m) (q : Q (.int (n * 2 ^ m.toNat)) H) : rShlI (.int n) (.int m) H Q := ⟨n, m, rfl, rfl, h, q⟩
theorem go_shr (h : 0 ≤ m) (q : Q (.int (n / 2 ^ m.toNat)) H) : rShrI (.int n) (.int m) H Q := ⟨n, m, rfl, rfl, h, q⟩
theorem go_lt (q : Q (.bl (decide (n < m))) H) : rLt (.int n) (.int m) H Q := ⟨n, m, rfl, rfl, q⟩
theorem go_le (q : Q (.bl (decide (n ≤ m))) H) : rLe (.int n) (.int m) H Q := ⟨n, m, rfl, rfl, q⟩
theorem go_gt (q : Q (.bl (decide (m < n))) H) : rGt (.int n) (.int m) H Q := ⟨n, m, rfl, rfl, q⟩
theorem go_ge (q : Q (.bl (decide (m ≤ n))) H) : rGe (.int n) (.int m) H Q := ⟨n, m, rfl, rfl, q⟩
theorem int_dec (n m : Int) : decide (V.int n = V.int m) = decide (n = m) := by
  by_cases h : n = m
  · subst h
    rw [decide_eq_true rfl, decide_eq_true rfl]
  · rw [decide_eq_false h, decide_eq_false fun e => h (V.int.inj e)]
theorem go_eqI (q : Q (.bl (decide (n = m))) H) : rEq (.int n) (.int m) H Q := ⟨rfl, by rw [int_dec]; exact q⟩
theorem go_neI (q : Q (.bl (!decide (n = m))) H) : rNe (.int n) (.int m) H Q := ⟨rfl, by rw [int_dec]; exact q⟩
/-- sign == "1" -/
theorem go_eq1 {c : Bool} (q : Q (.bl c) H) : rEq (.str (S [c])) (.str "1") H Q := ⟨rfl, by rw [S_one, S_is1]; exact q⟩
theorem go_addS {l m : List Bool} (h : l.length + m.length ≤ sizeLine) (q : Q (.str (S (l ++ m))) H) : rAddS (.str (S l)) (.str (S m)) H Q := ⟨_, _, rfl, rfl, by rw [S_len, S_len]; exact h, by rw [S_app]; exact q⟩
theorem go_isN (q : Q (.bl (decide (x = .non))) H) : rIsN x .non H Q := ⟨rfl, q⟩
theorem go_notN (q : Q (.bl (!decide (x = .non))) H) : rNotN x .non H Q := ⟨rfl, q⟩
theorem mem_01 (c : Bool) : decide (sg c ∈ tl ("01" : Str)) = true := by cases c <;> decide +kernel
theorem go_inS {c : Bool} (q : Q (.bl true) H) : rInS (.str (S [c])) (.str "01") H Q := ⟨sg c, _, rfl, rfl, by
  have e := mem_01 c
  unfold tl at e
  rw [e]
  exact q⟩
theorem go_notInS {c : Bool} (q : Q (.bl false) H) : rNotInS (.str (S [c])) (.str "01") H Q := ⟨sg c, _, rfl, rfl, by
  have e := mem_01 c
  unfold tl at e
  rw [e]
  exact q⟩
/-- subscripts -/
theorem go_ixL (h : H p = some (.lst xs)) (ha : atI xs n = some v) (q : Q v H) : rIxL K (.ref p) (.int n) H Q := ⟨p, xs, n, v, rfl, rfl, SqL.of h, ha, q⟩
theorem go_ixT (h : H p = some (.tup xs)) (ha : atI xs n = some v) (q : Q v H) : rIxT K (.ref p) (.int n) H Q := ⟨p, xs, n, v, rfl, rfl, SqT.of h, ha, q⟩
theorem go_ixLq (h : SqL K H p xs) (ha : atI xs n = some v) (q : Q v H) : rIxL K (.ref p) (.int n) H Q := ⟨p, xs, n, v, rfl, rfl, h, ha, q⟩
theorem go_ixS {w : List Bool} {c : Bool} (hz : w.length ≤ sizeLine) (ha : atI w n = some c) (q : Q (.str (S [c])) H) : rIxS (.str (S w)) (.int n) H Q := by
  refine ⟨S w, n, sg c, rfl, rfl, by rw [S_len]; exact hz, ?_, q⟩
  show atI (tl (S w)) n = some (sg c)
  rw [tl_S]
  unfold atI at ha ⊢
  rw [List.length_map]
  cases e : ixN w.length n with
  | none =>
    rw [e] at ha
    cases ha
  | some k =>
    rw [e] at ha
    show (w.map sg)[k]? = some (sg c)
    rw [List.getElem?_map]
    rw [show w[k]? = some c from ha]
    rfl
/-- calls of built-ins -/
theorem go_cb {r : List V → Hp → VK → Prop} (q : tA σ H fun vs H1 => r vs H1 Q) : tCB r tA σ H Q := q
theorem go_lenL (h : H p = some (.lst xs)) (q : Q (.int (xs.length : Int)) H) : cLenL K [.ref p] H Q := ⟨p, xs, rfl, .inl (SqL.of h), q⟩
theorem go_lenLq (h : SqL K H p xs) (q : Q (.int (xs.length : Int)) H) : cLenL K [.ref p] H Q := ⟨p, xs, rfl, .inl h, q⟩
theorem go_lenT (h : H p = some (.tup xs)) (q : Q (.int (xs.length : Int)) H) : cLenL K [.ref p] H Q := ⟨p, xs, rfl, .inr (SqT.of h), q⟩
theorem go_lenS {w : List Bool} (hz : w.length ≤ sizeLine) (q : Q (.int (w.length : Int)) H) : cLenS [.str (S w)] H Q := ⟨S w, rfl, by rw [S_len]; exact hz, by rw [S_len]; exact q⟩
theorem go_abs (q : Q (.int (if n < 0 then -n else n)) H) : cAbs [.int n] H Q := ⟨n, rfl, q⟩
theorem go_max2 (q : Q (.int (max n m)) H) : cMax2 [.int n, .int m] H Q := ⟨n, m, rfl, by
  have e : (if m > n then m else n) = max n m := by
    rw [Int.max_def]
    split <;> split <;> omega
  rw [e]
  exact q⟩
theorem go_min2 (q : Q (.int (min n m)) H) : cMin2 [.int n, .int m] H Q := ⟨n, m, rfl, by
  have e : (if m < n then m else n) = min n m := by
    rw [Int.min_def]
    split <;> split <;> omega
  rw [e]
  exact q⟩
theorem go_intB (q : Q (.int (if b then 1 else 0)) H) : cInt [.bl b] H Q := .inr ⟨b, rfl, q⟩
theorem go_sum {ns : List Int} (h : H p = some (.lst (ns.map V.int))) (q : Q (.int ns.sum) H) : rSum K [.ref p] H Q := ⟨p, ns, rfl, SqL.of h, q⟩
/-- arguments -/
theorem go_nil (q : QA [] H) : tNil σ H QA := q
theorem go_cons (q : te σ H fun x H1 => tr σ H1 fun xs H2 => QA (x :: xs) H2) : tCons te tr σ H QA := q
theorem go_lst (q : tA σ H fun xs H1 => newL xs H1 Q) : tLst tA σ H Q := q
theorem go_tup (q : tA σ H fun xs H1 => newT xs H1 Q) : tTup tA σ H Q := q
theorem go_newL (hz : xs.length ≤ sizeLine) (q : ∀ p H2, H p = none → Same H H2 → H2 p = some (.lst xs) → Q (.ref p) H2) : newL xs H Q := ⟨hz, fun p hp => q p _ hp (same_new hp) upd_same⟩
theorem go_newT (hz : xs.length ≤ sizeLine) (q : ∀ p H2, H p = none → Same H H2 → H2 p = some (.tup xs) → Q (.ref p) H2) : newT xs H Q := ⟨hz, fun p hp => q p _ hp (same_new hp) upd_same⟩
theorem go_cat (h1 : H p = some (.lst xs)) (h2 : H l = some (.lst ys)) (hz : xs.length + ys.length ≤ sizeLine) (q : ∀ p' H2, H p' = none → Same H H2 → H2 p' = some (.lst (xs ++ ys)) → Q (.ref p') H2) : rCat (.ref p) (.ref l) H Q :=
  ⟨p, l, xs, ys, rfl, rfl, h1, h2, hz, fun p' hp => q p' _ hp (same_new hp) upd_same⟩
theorem go_listOf (h : SqL K H p xs) (q : ∀ p' H2, H p' = none → Same H H2 → H2 p' = some (.lst xs) → Q (.ref p') H2) : cListOf K [.ref p] H Q := ⟨p, xs, rfl, .inl h, fun p' hp => q p' _ hp (same_new hp) upd_same⟩
theorem go_tupOf (h : SqL K H p xs) (q : ∀ p' H2, H p' = none → Same H H2 → H2 p' = some (.tup xs) → Q (.ref p') H2) : cTupOf K [.ref p] H Q := ⟨p, xs, rfl, .inl ⟨h, fun p' hp => q p' _ hp (same_new hp) upd_same⟩⟩
theorem go_pick (q : ta σ H fun x H1 => tb σ H1 fun y H2 => tc σ H2 fun i H3 => ∃ k : Bool, i = .int (if k then 1 else 0) ∧ Q (if k then y else x) H3) : tPick ta tb tc σ H Q := q
theorem go_picked {b : Bool} (q : Q (if b then y else x) H) : ∃ k : Bool, V.int (if b then 1 else 0) = .int (if k then 1 else 0) ∧ Q (if k then y else x) H := ⟨b, rfl, q⟩
/-- slices -/
theorem go_sl {r : V → Option Int → Option Int → Hp → VK → Prop} {tl th : TO} (q : te σ H fun x H1 => tl σ H1 fun l H2 => th σ H2 fun u H3 => r x l u H3 Q) : tSl r te tl th σ H Q := q
theorem go_nopart (q : QO none H) : tNoPart σ H QO := q
theorem go_part (q : te σ H fun x H1 => ∃ i, x = .int i ∧ QO (some i) H1) : tPart te σ H QO := q
theorem go_parti (q : QO (some n) H) : ∃ i, V.int n = .int i ∧ QO (some i) H := ⟨n, rfl, q⟩
theorem go_slL {lo hi : Option Int} (h : SqL K H p xs) (q : ∀ p' H2, H p' = none → Same H H2 → H2 p' = some (.lst (cutV xs lo hi)) → Q (.ref p') H2) : rSlL K (.ref p) lo hi H Q := ⟨p, xs, rfl, h, fun p' hp => q p' _ hp (same_new hp) upd_same⟩
theorem go_slS {lo hi : Option Int} {w : List Bool} (hz : w.length ≤ sizeLine) (q : Q (.str (S ((w.drop (HT.sIx w.length 0 lo)).take (HT.sIx w.length w.length hi - HT.sIx w.length 0 lo)))) H) : rSlS (.str (S w)) lo hi H Q := ⟨S w, rfl, by rw [S_len]; exact hz, by rw [S_cut]; exact q⟩
/-- tests -/
theorem go_test (q : te σ H fun x H1 => isB x H1 QB) : tTest te σ H QB := q
theorem go_tB (q : te σ H fun x H1 => isB x H1 QB) : tB te σ H QB := q
theorem go_isB (q : QB b H) : isB (.bl b) H QB := ⟨b, rfl, q⟩
theorem go_tand (q : tt σ H fun c H1 => ifB c (tu σ H1 QB) (QB false H1)) : tAnd tt tu σ H QB := q
theorem go_tor (q : tt σ H fun c H1 => ifB c (QB true H1) (tu σ H1 QB)) : tOr tt tu σ H QB := q
theorem go_tnot (q : tt σ H fun c H1 => QB (!c) H1) : tNot tt σ H QB := q
theorem go_andV (q : ta σ H fun x H1 => isB x H1 fun c H1 => ifB c (tb σ H1 Q) (Q (.bl false) H1)) : tAndV ta tb σ H Q := q
theorem go_orV (q : ta σ H fun x H1 => isB x H1 fun c H1 => ifB c (Q (.bl true) H1) (tb σ H1 Q)) : tOrV ta tb σ H Q := q
theorem go_notV (q : ta σ H fun x H1 => isB x H1 fun c H1 => Q (.bl (!c)) H1) : tNotV ta σ H Q := q
theorem go_chain {r' : R2} (q : ta σ H fun x H1 => tb σ H1 fun y H2 => r x y H2 fun z H3 => isB z H3 fun k H3 => ifB k (tc σ H3 fun u H4 => r' y u H4 Q) (Q (.bl false) H3)) : tChain r r' ta tb tc σ H Q := q
theorem go_nilE (h : H p = some (.lst xs)) (hx : xs.all plainV = true) (q : Q (.bl xs.isEmpty) H) : nilK false (.ref p) H Q := ⟨p, xs, rfl, h, hx, q⟩
theorem go_nilN (h : H p = some (.lst xs)) (hx : xs.all plainV = true) (q : Q (.bl (!xs.isEmpty)) H) : nilK true (.ref p) H Q := ⟨p, xs, rfl, h, hx, q⟩
theorem go_nilt {neg : Bool} (q : ta σ H fun x H1 => nilK neg x H1 Q) : tNil' neg ta σ H Q := q
/-- statements -/
theorem go_seq (q : ts { D with nx := tz D } σ H) : tSeq ts tz D σ H := q
theorem go_next (q : D.nx σ H) : tNext D σ H := q
theorem go_brk (q : D.bk σ H) : tBreak D σ H := q
theorem go_ct (q : D.ct σ H) : tCont D σ H := q
theorem go_asg (q : te σ H fun v H1 => g v σ H1 D.nx) : tAsg te g D σ H := q
theorem go_gname (q : QG (σ.set i (some v)) H) : gName i v σ H QG := q
theorem go_drop (q : te σ H fun _ H1 => D.nx σ H1) : tDrop te D σ H := q
theorem go_ret (q : te σ H D.rt) : tRet te D σ H := q
theorem go_retN (q : D.rt .non H) : tRetN D σ H := q
theorem go_if (q : tt σ H fun c H1 => ifB c (ts D σ H1) (tz D σ H1)) : tIfS tt ts tz D σ H := q
theorem go_aug {f : Int → Int → Int} (h : σ[i]? = some (some (.int n))) (q : te σ H fun y H1 => ∃ m, y = .int m ∧ D.nx (σ.set i (some (.int (f n m)))) H1) : tAug i te (ipI f) D σ H := by
  refine ⟨.int n, h, ?_⟩
  have e : (fun y H1 => ∃ m, y = V.int m ∧ D.nx (σ.set i (some (V.int (f n m)))) H1) = fun y H1 => ipI f (V.int n) y H1 fun z H2 => D.nx (σ.set i (some z)) H2 := by
    funext y H1
    refine propext ⟨fun ⟨m, e, q⟩ => ⟨n, m, rfl, e, q⟩, fun ⟨n', m, e1, e2, q⟩ => ?_⟩
    have e3 := V.int.inj e1
    subst e3
    exact ⟨m, e2, q⟩
  rw [← e]
  exact q
theorem go_augi {R : Int → Prop} (q : R n) : ∃ m, V.int n = .int m ∧ R m := ⟨n, rfl, q⟩
theorem go_gtup {as : List V} {k : Nat} (h : H p = some (.tup as)) (hk : as.length = k) (q : gs as σ H QG) : gTup K k gs (.ref p) σ H QG := ⟨p, as, rfl, SqT.of h, hk, q⟩
theorem go_gnil (q : QG σ H) : gNil [] σ H QG := ⟨rfl, q⟩
theorem go_gcons (q : g x σ H fun σ' H' => gs xs σ' H' QG) : gCons g gs (x :: xs) σ H QG := ⟨x, xs, rfl, q⟩
/-- calls of our own -/
theorem go_cl {sp : Sp} (q : tA σ H fun vs H1 => sp vs H1 Q E0) : tCl sp tA σ H Q := q
theorem go_mt {C : Addr} {m : Str} {sp : Sp} (q : to σ H fun x H1 => ∃ a dx fs, x = .ref a ∧ H1 a = some (.ins C dx fs) ∧ fs.lookup m = none ∧ tA σ H1 fun vs H2 => sp (x :: vs) H2 Q E0) : tMt C m sp to tA σ H Q := q
/-- fields -/
def fldK (K : PySem.W.Frag) (f : Str) (x : V) (H : Hp) (Q : VK) : Prop := ∃ a C dx fs v, x = .ref a ∧ H a = some (.ins C dx fs) ∧ Cls K C ∧ NoAttr K C f ∧ fs.lookup f = some v ∧ Q v H
theorem go_fld {f : Str} (q : ta σ H fun x H1 => fldK K f x H1 Q) : tFld K ta f σ H Q := q
/-- list.append, list.pop -/
def appK (K : PySem.W.Frag) (x : V) (H : Hp) (P : Prop) : Prop := tyV K "list" x H ∧ P
theorem go_bm {T : String} {r : V → List V → Hp → VK → Prop} (q : to σ H fun x H1 => tyV K T x H1 ∧ tA σ H1 fun xs H2 => r x xs H2 Q) : tBM K T r to tA σ H Q := q
theorem go_bm0 {T : String} {r : V → List V → Hp → VK → Prop} (q : to σ H fun x H1 => tyV K T x H1 ∧ r x [] H1 Q) : tBM0 K T r to σ H Q := q
theorem ty_lst (h : H p = some (.lst xs)) {P : Prop} (q : P) : tyV K "list" (.ref p) H ∧ P := ⟨.inl ⟨rfl, xs, SqL.of h⟩, q⟩
theorem ty_str {w : Str} {P : Prop} (q : P) : tyV K "str" (.str w) H ∧ P := ⟨rfl, q⟩
theorem go_append (h : H l = some (.lst xs)) (hz : xs.length < sizeLine) (q : Q .non (upd H l (.lst (xs ++ [y])))) : rAppend (.ref l) [y] H Q := ⟨l, xs, y, rfl, rfl, h, hz, q⟩
theorem go_pop (h : H l = some (.lst (xs ++ [y]))) (q : Q y (upd H l (.lst xs))) : rPop (.ref l) [] H Q := ⟨l, xs ++ [y], y, rfl, rfl, h, by simp, by
  rw [List.dropLast_concat]
  exact q⟩
end
/-- one step of a reading -/
local macro_rules | `(tactic| walk_at "st") => `(tactic| first
  | with_reducible refine go_seq ?_ | with_reducible refine go_asg ?_ | with_reducible refine go_gname ?_ | (with_reducible refine go_var ?hv ?_; (case hv => rfl)) | with_reducible refine go_c ?_ | with_reducible refine go_op ?_
  | with_reducible refine go_add ?_ | with_reducible refine go_sub ?_)
end
section
/-! ### loops -/
def loopK (J : It) (g : TG) (tb : TS) (D : Ends) (σ : St) (H : Hp) : Prop := ∃ W : Nat → Nat → St → Hp → Prop, (∃ m, W 0 m σ H) ∧ ∀ i m σ H, W i m σ H →
  (J.stop i H ∧ D.nx σ H) ∨ (J.go i H ∧ ∃ N : St → Hp → Prop, (∀ σ' H', N σ' H' → ∃ m', m' < m ∧ W (i + 1) m' σ' H') ∧ ∀ x H', J.yld i H x H' → g x σ H' fun σ2 H2 => tb { D with nx := N, ct := N, bk := D.nx } σ2 H2)
def strK (v : V) (H : Hp) (R : It → Hp → Prop) : Prop := ∃ x, v = .str x ∧ R (Its x) H
def listK (K : PySem.W.Frag) (v : V) (H : Hp) (R : It → Hp → Prop) : Prop := ∃ a, v = .ref a ∧ (∃ xs, SqL K H a xs) ∧ R (Itl K a) H
def enSK (vs : List V) (H : Hp) (R : It → Hp → Prop) : Prop := ∃ x, vs = [.str x] ∧ R (Itse x) H
def enLK (K : PySem.W.Frag) (vs : List V) (H : Hp) (R : It → Hp → Prop) : Prop := ∃ a xs, vs = [.ref a] ∧ SqL K H a xs ∧ R (Ite K a) H
def rng1K (vs : List V) (H : Hp) (R : It → Hp → Prop) : Prop := ∃ j : Int, vs = [.int j] ∧ -(2 ^ 62) ≤ j ∧ j < 2 ^ 62 ∧ R (Itr 0 j.toNat) H
def rng2K (vs : List V) (H : Hp) (R : It → Hp → Prop) : Prop := ∃ i j : Int, vs = [.int i, .int j] ∧ (-(2 ^ 62) ≤ i ∧ i < 2 ^ 62 ∧ -(2 ^ 62) ≤ j ∧ j < 2 ^ 62) ∧ R (Itr i (j - i).toNat) H
def rng3K (vs : List V) (H : Hp) (R : It → Hp → Prop) : Prop := ∃ (i j c : Int) (n : Nat), vs = [.int i, .int j, .int c] ∧ RgC i j c n ∧ R (Itc i c n) H
section
variable {K : PySem.W.Frag} {σ : St} {H : Hp} {D : Ends} {te : TE} {ta : TA} {wi : TI} {g : TG} {tb : TS} {R : It → Hp → Prop} {l : List Bool} {p : Addr} {xs : List V} {n m : Int}
theorem go_for (q : wi σ H fun J H1 => loopK J g tb D σ H1) : tFor wi g tb D σ H := q
theorem go_iStr (q : te σ H fun v H1 => strK v H1 R) : iStr te σ H R := q
theorem go_strK (q : R (Its (S l)) H) : strK (.str (S l)) H R := ⟨_, rfl, q⟩
theorem go_iList (q : te σ H fun v H1 => listK K v H1 R) : iList K te σ H R := q
theorem go_listK (h : SqL K H p xs) (q : R (Itl K p) H) : listK K (.ref p) H R := ⟨p, rfl, ⟨xs, h⟩, q⟩
theorem go_iEnS (q : ta σ H fun vs H1 => enSK vs H1 R) : iEnumS ta σ H R := q
theorem go_enSK (q : R (Itse (S l)) H) : enSK [.str (S l)] H R := ⟨_, rfl, q⟩
theorem go_iEnL (q : ta σ H fun vs H1 => enLK K vs H1 R) : iEnum K ta σ H R := q
theorem go_enLK (h : SqL K H p xs) (q : R (Ite K p) H) : enLK K [.ref p] H R := ⟨p, xs, rfl, h, q⟩
theorem go_iR1 (q : ta σ H fun vs H1 => rng1K vs H1 R) : iRng1 ta σ H R := q
theorem go_iR2 (q : ta σ H fun vs H1 => rng2K vs H1 R) : iRng2 ta σ H R := q
theorem go_iR3 (q : ta σ H fun vs H1 => rng3K vs H1 R) : iRng3 ta σ H R := q
theorem go_rng1 {k : Nat} (hk : k ≤ 1000000) (q : R (Itr 0 k) H) : rng1K [.int (k : Int)] H R := ⟨k, rfl, by omega, by omega, by rw [Int.toNat_natCast]; exact q⟩
theorem go_rng1i (h0 : -1000000 ≤ n) (h1 : n ≤ 1000000) (q : R (Itr 0 n.toNat) H) : rng1K [.int n] H R := ⟨n, rfl, by omega, by omega, q⟩
theorem go_rng2 (h : -1000000 ≤ n ∧ n ≤ 1000000 ∧ -1000000 ≤ m ∧ m ≤ 1000000) (q : R (Itr n (m - n).toNat) H) : rng2K [.int n, .int m] H R := ⟨n, m, rfl, by omega, q⟩
/-- range(n, -1, -1) -/
theorem go_rng3d (h : -1 ≤ n ∧ n ≤ 1000000) (q : R (Itc n (-1) (n + 1).toNat) H) : rng3K [.int n, .int (-1), .int (-1)] H R := ⟨n, -1, -1, (n + 1).toNat, rfl, by
  have e : (n + 1).toNat = (n - (-1)).toNat := by omega
  rw [e]
  exact RgC.neg (by omega) (by omega) (by omega) (by omega), q⟩
/-- over a text -/
theorem loop_str (Pv : List Bool → St → Hp → Prop) (h0 : Pv [] σ H)
    (hs : ∀ pre b post σ' H', l = pre ++ b :: post → Pv pre σ' H' → g (.str (S [b])) σ' H' fun σ2 H2 => tb { D with nx := Pv (pre ++ [b]), ct := Pv (pre ++ [b]), bk := D.nx } σ2 H2)
    (hd : ∀ σ' H', Pv l σ' H' → D.nx σ' H') : loopK (Its (S l)) g tb D σ H := by
  refine ⟨fun i m σ H => m = l.length - i ∧ i ≤ l.length ∧ Pv (l.take i) σ H, ⟨_, rfl, Nat.zero_le _, h0⟩, ?_⟩
  rintro i m σ H ⟨rfl, hi, p⟩
  by_cases hlt : i < l.length
  · refine .inr ⟨by show i < (S l).cps.size; rw [S_size]; exact hlt, Pv (l.take (i + 1)), fun σ' H' p' => ⟨l.length - (i + 1), by omega, rfl, hlt, p'⟩, fun x H' y => ?_⟩
    obtain ⟨e, c, hc, ex⟩ := y
    subst e
    rw [S_at, List.getElem?_eq_getElem hlt] at hc
    have ec : sg l[i] = c := Option.some.inj hc
    subst ec
    subst ex
    have e1 : l.take (i + 1) = l.take i ++ [l[i]] := by rw [List.take_succ, List.getElem?_eq_getElem hlt]; rfl
    rw [e1]
    exact hs (l.take i) l[i] (l.drop (i + 1)) σ _ (by rw [List.getElem_cons_drop, List.take_append_drop]) p
  · have e : i = l.length := by omega
    subst e
    rw [List.take_length] at p
    exact .inl ⟨by show (S l).cps.size ≤ l.length; rw [S_size]; exact Nat.le_refl _, hd σ H p⟩
/-- for i, sign in enumerate(text) -/
theorem loop_enS {i1 i2 : Nat} (Pv : List Bool → St → Hp → Prop) (h0 : Pv [] σ H)
    (hs : ∀ pre b post σ' H' H2, l = pre ++ b :: post → Pv pre σ' H' → Same H' H2 → tb { D with nx := Pv (pre ++ [b]), ct := Pv (pre ++ [b]), bk := D.nx } ((σ'.set i1 (some (.int (pre.length : Nat)))).set i2 (some (.str (S [b])))) H2)
    (hd : ∀ σ' H', Pv l σ' H' → D.nx σ' H') : loopK (Itse (S l)) (gTup K 2 (gCons (gName i1) (gCons (gName i2) gNil))) tb D σ H := by
  refine ⟨fun i m σ H => m = l.length - i ∧ i ≤ l.length ∧ Pv (l.take i) σ H, ⟨_, rfl, Nat.zero_le _, h0⟩, ?_⟩
  rintro i m σ H ⟨rfl, hi, p⟩
  by_cases hlt : i < l.length
  · refine .inr ⟨by show i < (S l).cps.size; rw [S_size]; exact hlt, Pv (l.take (i + 1)), fun σ' H' p' => ⟨l.length - (i + 1), by omega, rfl, hlt, p'⟩, fun x H' y => ?_⟩
    obtain ⟨T, c, ex, hT, eH, hc⟩ := y
    subst ex
    rw [S_at, List.getElem?_eq_getElem hlt] at hc
    have ec : sg l[i] = c := Option.some.inj hc
    subst ec
    have e1 : l.take (i + 1) = l.take i ++ [l[i]] := by rw [List.take_succ, List.getElem?_eq_getElem hlt]; rfl
    have e2 : (l.take i).length = i := by rw [List.length_take]; omega
    have q := hs (l.take i) l[i] (l.drop (i + 1)) σ H H' (by rw [List.getElem_cons_drop, List.take_append_drop]) p (by rw [eH]; exact same_new hT)
    rw [e2, ← e1] at q
    refine ⟨T, [.int (i : Nat), .str ⟨#[sg l[i]]⟩], rfl, SqT.of (by rw [eH]; exact upd_same), rfl, _, _, rfl, _, _, rfl, rfl, q⟩
  · have e : i = l.length := by omega
    subst e
    rw [List.take_length] at p
    exact .inl ⟨by show l.length = (S l).cps.size; rw [S_size], hd σ H p⟩
/-- over a list that stays as it is -/
theorem loop_list {α : Type} {as : List α} {f : α → V} (Pv : List α → St → Hp → Prop) (h0 : Pv [] σ H) (hl : ∀ pre post σ' H', as = pre ++ post → Pv pre σ' H' → SqL K H' p (as.map f))
    (hs : ∀ pre a post σ' H', as = pre ++ a :: post → Pv pre σ' H' → g (f a) σ' H' fun σ2 H2 => tb { D with nx := Pv (pre ++ [a]), ct := Pv (pre ++ [a]), bk := D.nx } σ2 H2)
    (hd : ∀ σ' H', Pv as σ' H' → D.nx σ' H') : loopK (Itl K p) g tb D σ H := by
  refine for_list (K := K) (a := p) (xs := as.map f) (fun i σ' H' => Pv (as.take i) σ' H') h0 (fun i σ' H' hi q => hl (as.take i) (as.drop i) σ' H' (List.take_append_drop i as).symm q) (fun i x σ' H' hx q => ?_) (fun σ' H' q => ?_)
  · rw [List.getElem?_map] at hx
    cases e : as[i]? with
    | none =>
      rw [e] at hx
      cases hx
    | some a =>
      rw [e] at hx
      have ex : f a = x := Option.some.inj hx
      subst ex
      obtain ⟨hlt, ea⟩ := List.getElem?_eq_some_iff.mp e
      subst ea
      have e1 : as.take (i + 1) = as.take i ++ [as[i]] := by rw [List.take_succ, List.getElem?_eq_getElem hlt]; rfl
      rw [e1]
      exact hs (as.take i) as[i] (as.drop (i + 1)) σ' H' (by rw [List.getElem_cons_drop, List.take_append_drop]) q
  · rw [List.length_map, List.take_length] at q
    exact hd σ' H' q
/-- for i, x in enumerate(list) -/
theorem loop_enL {α : Type} {as : List α} {f : α → V} {i1 i2 : Nat} (Pv : List α → St → Hp → Prop) (h0 : Pv [] σ H) (hl : ∀ pre post σ' H', as = pre ++ post → Pv pre σ' H' → SqL K H' p (as.map f))
    (hs : ∀ pre a post σ' H' H2, as = pre ++ a :: post → Pv pre σ' H' → Same H' H2 → tb { D with nx := Pv (pre ++ [a]), ct := Pv (pre ++ [a]), bk := D.nx } ((σ'.set i1 (some (.int (pre.length : Nat)))).set i2 (some (f a))) H2)
    (hd : ∀ σ' H', Pv as σ' H' → D.nx σ' H') : loopK (Ite K p) (gTup K 2 (gCons (gName i1) (gCons (gName i2) gNil))) tb D σ H := by
  refine for_it (J := Ite K p) (n := (as.map f).length) walk_enum (fun i σ' H' => Pv (as.take i) σ' H') h0 (fun i σ' H' hi q => hl (as.take i) (as.drop i) σ' H' (List.take_append_drop i as).symm q) (fun i x σ' H' H2 hi q hy => ?_) (fun σ' H' q => ?_)
  · have hlt : i < as.length := by rw [List.length_map] at hi; exact hi
    obtain ⟨T, x1, y1, ex, hT, eH, ha, hb⟩ := hy
    subst ex
    have ex1 : V.int (i : Nat) = x1 := Option.some.inj ha
    subst ex1
    have hb2 : (as.map f)[i]? = some y1 := hb
    rw [List.getElem?_map, List.getElem?_eq_getElem hlt] at hb2
    have ey : f as[i] = y1 := Option.some.inj hb2
    subst ey
    have e1 : as.take (i + 1) = as.take i ++ [as[i]] := by rw [List.take_succ, List.getElem?_eq_getElem hlt]; rfl
    have e2 : (as.take i).length = i := by rw [List.length_take]; omega
    have z := hs (as.take i) as[i] (as.drop (i + 1)) σ' H' H2 (by rw [List.getElem_cons_drop, List.take_append_drop]) q (by rw [eH]; exact same_new hT)
    rw [e2, ← e1] at z
    exact ⟨T, _, rfl, SqT.of (by rw [eH]; exact upd_same), rfl, _, _, rfl, _, _, rfl, rfl, z⟩
  · rw [List.length_map, List.take_length] at q
    exact hd σ' H' q
/-- over lo, lo + 1, .. -/
theorem loop_rng {lo : Int} {k : Nat} (Pv : Nat → St → Hp → Prop) (h0 : Pv 0 σ H)
    (hs : ∀ i σ' H', i < k → Pv i σ' H' → g (.int (lo + i)) σ' H' fun σ2 H2 => tb { D with nx := Pv (i + 1), ct := Pv (i + 1), bk := D.nx } σ2 H2) (hd : ∀ σ' H', Pv k σ' H' → D.nx σ' H') : loopK (Itr lo k) g tb D σ H :=
  for_range Pv h0 hs hd
theorem loop_rngC {lo c : Int} {k : Nat} (Pv : Nat → St → Hp → Prop) (h0 : Pv 0 σ H)
    (hs : ∀ i σ' H', i < k → Pv i σ' H' → g (.int (lo + i * c)) σ' H' fun σ2 H2 => tb { D with nx := Pv (i + 1), ct := Pv (i + 1), bk := D.nx } σ2 H2) (hd : ∀ σ' H', Pv k σ' H' → D.nx σ' H') : loopK (Itc lo c k) g tb D σ H :=
  for_rangeC Pv h0 hs hd
/-- while: W by a measure -/
def whK (W : Nat → St → Hp → Prop) (m : Nat) (tb : TS) (D : Ends) (σ : St) (b : Bool) (H1 : Hp) : Prop :=
  if b = true then ∃ N : St → Hp → Prop, (∀ σ' H', N σ' H' → ∃ m', m' < m ∧ W m' σ' H') ∧ tb { D with nx := N, ct := N, bk := D.nx } σ H1 else D.nx σ H1
theorem go_while {tt : TT} (W : Nat → St → Hp → Prop) (m0 : Nat) (h0 : W m0 σ H) (hs : ∀ m σ' H', W m σ' H' → tt σ' H' fun b H1 => whK W m tb D σ' b H1) : tWhile tt tb D σ H :=
  ⟨W, ⟨m0, h0⟩, fun m σ' H' hW => hs m σ' H' hW⟩
theorem whK_of {W : Nat → St → Hp → Prop} {k : Nat} {b : Bool} (h1 : b = true → tb { D with nx := fun σ2 H2 => ∃ m', m' < k ∧ W m' σ2 H2, ct := fun σ2 H2 => ∃ m', m' < k ∧ W m' σ2 H2, bk := D.nx } σ H)
    (h2 : b = false → D.nx σ H) : whK W k tb D σ b H := by
  cases b with
  | true => exact ⟨_, fun _ _ h => h, h1 rfl⟩
  | false =>
    show (if false = true then _ else D.nx σ H)
    rw [if_neg Bool.false_ne_true]
    exact h2 rfl
theorem whK_dec {W : Nat → St → Hp → Prop} {k : Nat} {q : Prop} [Decidable q] (h1 : q → tb { D with nx := fun σ2 H2 => ∃ m', m' < k ∧ W m' σ2 H2, ct := fun σ2 H2 => ∃ m', m' < k ∧ W m' σ2 H2, bk := D.nx } σ H)
    (h2 : ¬ q → D.nx σ H) : whK W k tb D σ (decide q) H := whK_of (fun h => h1 (of_decide_eq_true h)) fun h => h2 (of_decide_eq_false h)
theorem whK_t {W : Nat → St → Hp → Prop} {k : Nat} (h1 : tb { D with nx := fun σ2 H2 => ∃ m', m' < k ∧ W m' σ2 H2, ct := fun σ2 H2 => ∃ m', m' < k ∧ W m' σ2 H2, bk := D.nx } σ H) : whK W k tb D σ true H := whK_of (fun _ => h1) fun h => nomatch h
theorem whK_f {W : Nat → St → Hp → Prop} {k : Nat} (h2 : D.nx σ H) : whK W k tb D σ false H := whK_of (fun h => nomatch h) fun _ => h2
end
/-! ### comprehensions -/
def lcK (J : It) (g : TG) (tt : TT) (te : TE) (vs : List Nat) (σ : St) (H : Hp) (Q : VK) : Prop := ∀ D, H D = none → ∃ W : Nat → Nat → Hp → Prop, (∃ m, W 0 m (upd H D (.lst []))) ∧ ∀ i m H, W i m H →
  (J.stop i H ∧ Q (.ref D) H) ∨ (J.go i H ∧ ∃ Nx : Hp → Prop, (∀ H', Nx H' → ∃ m', m' < m ∧ W (i + 1) m' H') ∧ ∀ x H', J.yld i H x H' → g x (wipe σ vs) H' fun σ2 H2 => wipe σ2 vs = wipe σ vs ∧ tt σ2 H2 fun b H3 =>
    if b = true then te σ2 H3 fun y H4 => ∃ acc, H4 D = some (.lst acc) ∧ acc.length < sizeLine ∧ Nx (upd H4 D (.lst (acc ++ [y]))) else Nx H3)
/-- a test, an expression evaluates, the heap only grows -/
def EvT (tt : TT) (σ : St) (H : Hp) (b : Bool) : Prop := ∀ Q : Bool → Hp → Prop, (∀ H2, Same H H2 → Q b H2) → tt σ H Q
def EvV (te : TE) (σ : St) (H : Hp) (v : V) : Prop := ∀ Q : VK, (∀ H2, Same H H2 → Q v H2) → te σ H Q
/-- .. to a new tuple -/
def EvU (te : TE) (σ : St) (H : Hp) (r : List V) : Prop := ∀ Q : VK, (∀ t H2, H t = none → Same H H2 → H2 t = some (.tup r) → Q (.ref t) H2) → te σ H Q
theorem evT_yes {σ : St} {H : Hp} : EvT tYes σ H true := fun _ q => q H (Same.refl H)
/-- rows laid as tuples at the addresses ts -/
def TupsAt (H : Hp) (ts : List Addr) (rows : List (List V)) : Prop := ts.length = rows.length ∧ ∀ (i : Nat) (row : List V), rows[i]? = some row → ∃ t, ts[i]? = some t ∧ H t = some (.tup row)
theorem TupsAt.mono {H H' : Hp} {ts : List Addr} {rows : List (List V)} (h : TupsAt H ts rows) (e : ∀ (a : Addr) (r : List V), H a = some (.tup r) → H' a = some (.tup r)) : TupsAt H' ts rows :=
  ⟨h.1, fun i row q => let ⟨t, a, b⟩ := h.2 i row q; ⟨t, a, e _ _ b⟩⟩
section
variable {K : PySem.W.Frag} {σ : St} {H : Hp} {Q : VK} {te : TE} {tt : TT} {vs : List Nat} {wi : TI} {g : TG} {j : Nat} {J : It} {a : Addr} {l : List Bool}
theorem go_lc (q : wi σ H fun J H1 => lcK J g tt te vs σ H1 Q) : tLc wi g tt te vs σ H Q := q
/-- filter and map: the items are f of as -/
theorem lc_F {α : Type} {as : List α} {f : α → V} (p : α → Bool) (out : α → V) {G : Hp → Prop} (w : Walk J as.length G fun i H x H' => H' = H ∧ ∃ b, as[i]? = some b ∧ x = f b) (hG : ∀ H', Same H H' → G H') (hz : as.length < sizeLine) (hw : ∀ x, wipe ((wipe σ vs).set j (some x)) vs = wipe σ vs)
    (ht : ∀ x ∈ as, ∀ H', Same H H' → EvT tt ((wipe σ vs).set j (some (f x))) H' (p x)) (he : ∀ x ∈ as, p x = true → ∀ H', Same H H' → EvV te ((wipe σ vs).set j (some (f x))) H' (out x))
    (q : ∀ D H2, H D = none → Same H H2 → H2 D = some (.lst ((as.filter p).map out)) → Q (.ref D) H2) : lcK J (gName j) tt te vs σ H Q := by
  intro D hD
  have hlen : ∀ i, (((as.take i).filter p).map out).length ≤ as.length := fun i => by
    rw [List.length_map]
    exact Nat.le_trans (List.length_filter_le _ _) (by rw [List.length_take]; omega)
  refine lc_it w (fun i H' => Same H H' ∧ H' D = some (.lst (((as.take i).filter p).map out))) ⟨same_new hD, upd_same⟩ (fun i H' _ q => hG H' q.1) (fun i x H1 H2 hi ⟨e1, e2⟩ ⟨eH, b, hb, ex⟩ => ?_) (fun H' ⟨e1, e2⟩ => q D H' hD e1 (by rw [List.take_length] at e2; exact e2))
  subst eH
  subst ex
  have hmem : b ∈ as := List.mem_of_getElem? hb
  have e3 : as.take (i + 1) = as.take i ++ [b] := by rw [List.take_succ, hb]; rfl
  refine ⟨hw _, ht b hmem H2 e1 _ fun H3 e4 => ?_⟩
  cases hp : p b with
  | true =>
    show te _ H3 _
    refine he b hmem hp H3 (e1.trans e4) _ fun H4 e5 => ⟨_, e5 D _ (e4 D _ e2), Nat.lt_of_le_of_lt (hlen i) hz, same_mut ((e1.trans e4).trans e5) hD, ?_⟩
    rw [upd_same, e3, List.filter_append, List.map_append]
    simp [hp]
  | false =>
    show Same H H3 ∧ H3 D = _
    refine ⟨e1.trans e4, ?_⟩
    rw [e3, List.filter_append]
    simp [hp]
    exact e4 D _ e2
/-- each item a new tuple -/
theorem lc_U {α : Type} {as : List α} {f : α → V} (row : α → List V) {G : Hp → Prop} (w : Walk J as.length G fun i H x H' => H' = H ∧ ∃ b, as[i]? = some b ∧ x = f b) (hG : ∀ H', Same H H' → G H') (hz : as.length < sizeLine) (hw : ∀ x, wipe ((wipe σ vs).set j (some x)) vs = wipe σ vs)
    (he : ∀ x ∈ as, ∀ H', Same H H' → EvU te ((wipe σ vs).set j (some (f x))) H' (row x))
    (q : ∀ D ts H2, H D = none → Same H H2 → H2 D = some (.lst (ts.map V.ref)) → TupsAt H2 ts (as.map row) → Q (.ref D) H2) : lcK J (gName j) tYes te vs σ H Q := by
  intro D hD
  refine lc_it w (fun i H' => Same H H' ∧ ∃ ts, H' D = some (.lst (ts.map V.ref)) ∧ TupsAt H' ts ((as.take i).map row)) ⟨same_new hD, [], upd_same, rfl, fun i r h => by simp at h⟩ (fun i H' _ q => hG H' q.1) (fun i x H1 H2 hi ⟨e1, ts, e2, e6⟩ ⟨eH, b, hb, ex⟩ => ?_)
    (fun H' ⟨e1, ts, e2, e6⟩ => q D ts H' hD e1 e2 (by rw [List.take_length] at e6; exact e6))
  subst eH
  subst ex
  have hmem : b ∈ as := List.mem_of_getElem? hb
  have e3 : as.take (i + 1) = as.take i ++ [b] := by rw [List.take_succ, hb]; rfl
  refine ⟨hw _, ?_⟩
  show te _ H2 _
  refine he b hmem H2 e1 _ fun t H4 ht e5 h4 => ⟨_, e5 D _ e2, ?_, same_mut (e1.trans e5) hD, ts ++ [t], ?_, ?_, ?_⟩
  · rw [List.length_map, e6.1, List.length_map, List.length_take]
    omega
  · rw [upd_same, List.map_append]
    rfl
  · rw [e3, List.map_append, List.length_append, List.length_append, e6.1]
    rfl
  · intro k r hk
    have nD : ∀ (c : Addr) (z : List V), H4 c = some (.tup z) → c ≠ D := fun c z h1 h2 => by
      rw [h2, e5 D _ e2] at h1
      cases h1
    rw [e3, List.map_append] at hk
    by_cases hkl : k < ((as.take i).map row).length
    · rw [List.getElem?_append_left hkl] at hk
      obtain ⟨t', h1, h2⟩ := e6.2 k r hk
      refine ⟨t', by rw [List.getElem?_append_left (by rw [e6.1]; exact hkl)]; exact h1, ?_⟩
      have h3 := e5 _ _ h2
      rw [upd_ne (nD _ _ h3)]
      exact h3
    · rw [List.getElem?_append_right (by omega)] at hk
      have hk0 : k - ((as.take i).map row).length = 0 := by
        have h9 := (List.getElem?_eq_some_iff.mp hk).1
        have h8 : k - ((as.take i).map row).length < 1 := h9
        omega
      rw [hk0] at hk
      have er : row b = r := Option.some.inj hk
      subst er
      refine ⟨t, ?_, ?_⟩
      · rw [List.getElem?_append_right (by rw [e6.1]; omega), e6.1, hk0]
        rfl
      · rw [upd_ne (nD _ _ h4)]
        exact h4
theorem wk_list {α : Type} {as : List α} {f : α → V} : Walk (Itl K a) as.length (fun H => SqL K H a (as.map f)) fun i H x H' => H' = H ∧ ∃ b, as[i]? = some b ∧ x = f b := by
  have w := walk_list (K := K) (a := a) (xs := as.map f)
  rw [List.length_map] at w
  refine w.mono (fun H h => h) fun i H x H' hi _ ⟨e, h⟩ => ⟨e, as[i], List.getElem?_eq_getElem hi, ?_⟩
  rw [List.getElem?_map, List.getElem?_eq_getElem hi] at h
  exact (Option.some.inj h).symm
theorem wk_rng {lo : Int} {n : Nat} : Walk (Itr lo n) (List.range n).length (fun _ => True) fun i H x H' => H' = H ∧ ∃ b, (List.range n)[i]? = some b ∧ x = V.int (lo + (b : Nat)) := by
  have w := walk_range (lo := lo) (n := n)
  rw [List.length_range]
  exact w.mono (fun H h => h) fun i H x H' hi _ ⟨e, h⟩ => ⟨e, i, by rw [List.getElem?_range hi], h⟩
theorem wk_str {l : List Bool} : Walk (Its (S l)) l.length (fun _ => True) fun i H x H' => H' = H ∧ ∃ b, l[i]? = some b ∧ x = V.str (S [b]) := by
  have w := walk_str (z := S l)
  rw [S_size] at w
  refine w.mono (fun H h => h) fun i H x H' hi _ ⟨e, c, hc, ex⟩ => ⟨e, l[i], List.getElem?_eq_getElem hi, ?_⟩
  rw [S_at, List.getElem?_eq_getElem hi] at hc
  have ec : sg l[i] = c := Option.some.inj hc
  subst ec
  exact ex
end
end
/-! ## the mathematics: rows of signs, depths, woods -/
/-- from height h the row leads to 0, never below -/
def Bal : List Bool → Nat → Prop
  | [], h => h = 0
  | true :: t, h => Bal t (h + 1)
  | false :: _, 0 => False
  | false :: t, h + 1 => Bal t h
/-- never below 0 -/
def Nn : List Bool → Nat → Prop
  | [], _ => True
  | true :: t, h => Nn t (h + 1)
  | false :: _, 0 => False
  | false :: t, h + 1 => Nn t h
def hgt : List Bool → Nat → Nat
  | [], h => h
  | true :: t, h => hgt t (h + 1)
  | false :: t, h => hgt t (h - 1)
/-- the depths of the openings -/
def dep : List Bool → Nat → List Nat
  | [], _ => []
  | true :: t, h => h :: dep t (h + 1)
  | false :: t, h => dep t (h - 1)
def bv (b : Bool) : Int := if b then 1 else -1
def ht : List Bool → Int
  | [] => 0
  | b :: t => bv b + ht t
def ones : List Bool → Nat
  | [] => 0
  | true :: t => ones t + 1
  | false :: t => ones t
theorem ones_app : ∀ a b : List Bool, ones (a ++ b) = ones a + ones b
  | [], b => by simp [ones]
  | true :: a, b => by simp [ones, ones_app a b]; omega
  | false :: a, b => by simp [ones, ones_app a b]
theorem ht_app : ∀ a b : List Bool, ht (a ++ b) = ht a + ht b
  | [], b => by simp [ht]
  | x :: a, b => by simp [ht, ht_app a b]; omega
theorem ht_ones : ∀ a : List Bool, ht a = 2 * (ones a : Int) - a.length
  | [] => by simp [ht, ones]
  | true :: a => by simp [ht, ones, ht_ones a, bv]; omega
  | false :: a => by simp [ht, ones, ht_ones a, bv]; omega
theorem ones_le : ∀ a : List Bool, ones a ≤ a.length
  | [] => by simp [ones]
  | true :: a => by simp [ones]; exact ones_le a
  | false :: a => by simp [ones]; have := ones_le a; omega
theorem bal_app : ∀ (a b : List Bool) (h : Nat), Bal (a ++ b) h ↔ Nn a h ∧ Bal b (hgt a h)
  | [], b, h => by simp [Nn, hgt]
  | true :: a, b, h => by simp only [List.cons_append, Bal, Nn, hgt]; exact bal_app a b (h + 1)
  | false :: a, b, 0 => by simp [Bal, Nn]
  | false :: a, b, h + 1 => by simp only [List.cons_append, Bal, Nn, hgt, Nat.add_sub_cancel]; exact bal_app a b h
theorem nn_app : ∀ (a b : List Bool) (h : Nat), Nn (a ++ b) h ↔ Nn a h ∧ Nn b (hgt a h)
  | [], b, h => by simp [Nn, hgt]
  | true :: a, b, h => by simp only [List.cons_append, Nn, hgt]; exact nn_app a b (h + 1)
  | false :: a, b, 0 => by simp [Nn]
  | false :: a, b, h + 1 => by simp only [List.cons_append, Nn, hgt, Nat.add_sub_cancel]; exact nn_app a b h
theorem hgt_app : ∀ (a b : List Bool) (h : Nat), hgt (a ++ b) h = hgt b (hgt a h)
  | [], _, _ => rfl
  | true :: a, b, h => hgt_app a b (h + 1)
  | false :: a, b, h => hgt_app a b (h - 1)
theorem dep_app : ∀ (a b : List Bool) (h : Nat), dep (a ++ b) h = dep a h ++ dep b (hgt a h)
  | [], _, _ => rfl
  | true :: a, b, h => by simp only [List.cons_append, dep, hgt]; rw [dep_app a b (h + 1)]
  | false :: a, b, h => dep_app a b (h - 1)
theorem dep_len : ∀ (a : List Bool) (h : Nat), (dep a h).length = ones a
  | [], _ => rfl
  | true :: a, h => by simp [dep, ones, dep_len a (h + 1)]
  | false :: a, h => by simp [dep, ones, dep_len a (h - 1)]
theorem nn_ht : ∀ (a : List Bool) (h : Nat), Nn a h → (hgt a h : Int) = h + ht a
  | [], h, _ => by simp [hgt, ht]
  | true :: a, h, p => by
    have := nn_ht a (h + 1) p
    simp only [hgt, ht, bv, if_true]
    omega
  | false :: a, 0, p => p.elim
  | false :: a, h + 1, p => by
    have := nn_ht a h p
    simp only [hgt, ht, bv, Nat.add_sub_cancel]
    simp
    omega
theorem bal_nn : ∀ (a : List Bool) (h : Nat), Bal a h → Nn a h ∧ hgt a h = 0
  | [], h, p => ⟨trivial, p⟩
  | true :: a, h, p => bal_nn a (h + 1) p
  | false :: a, 0, p => p.elim
  | false :: a, h + 1, p => bal_nn a h p
theorem nn_bal : ∀ (a : List Bool) (h : Nat), Nn a h → hgt a h = 0 → Bal a h
  | [], h, _, q => q
  | true :: a, h, p, q => nn_bal a (h + 1) p q
  | false :: a, 0, p, _ => p.elim
  | false :: a, h + 1, p, q => nn_bal a h p q
theorem bal_ht (a : List Bool) (h : Nat) (p : Bal a h) : ht a = -h := by
  obtain ⟨n, e⟩ := bal_nn a h p
  have := nn_ht a h n
  rw [e] at this
  omega
/-- higher up all goes the same -/
theorem nn_up : ∀ (a : List Bool) (h c : Nat), Nn a h → Nn a (h + c) ∧ hgt a (h + c) = hgt a h + c ∧ dep a (h + c) = (dep a h).map (· + c)
  | [], h, c, _ => ⟨trivial, rfl, rfl⟩
  | true :: a, h, c, p => by
    obtain ⟨q1, q2, q3⟩ := nn_up a (h + 1) c p
    have e : h + 1 + c = h + c + 1 := by omega
    rw [e] at q1 q2 q3
    exact ⟨q1, q2, by simp only [dep, List.map_cons]; rw [q3]⟩
  | false :: a, 0, c, p => p.elim
  | false :: a, h + 1, c, p => by
    obtain ⟨q1, q2, q3⟩ := nn_up a h c p
    have e : h + 1 + c = h + c + 1 := by omega
    rw [e]
    exact ⟨q1, q2, q3⟩
theorem bal_up {a : List Bool} (c : Nat) (p : Bal a 0) : Nn a c ∧ hgt a c = c ∧ dep a c = (dep a 0).map (· + c) := by
  obtain ⟨n, e⟩ := bal_nn a 0 p
  obtain ⟨q1, q2, q3⟩ := nn_up a 0 c n
  rw [Nat.zero_add] at q1 q2 q3
  exact ⟨q1, by rw [q2, e, Nat.zero_add], q3⟩
/-- the first closing below the level -/
theorem bal_split : ∀ (n : Nat) (s : List Bool) (h : Nat), s.length ≤ n → Bal s (h + 1) → ∃ B C, s = B ++ false :: C ∧ Bal B 0 ∧ Bal C h
  | _, [], h, _, p => by simp [Bal] at p
  | 0, _ :: _, _, hl, _ => by simp at hl
  | n + 1, false :: s, h, _, p => ⟨[], s, rfl, rfl, p⟩
  | n + 1, true :: s, h, hl, p => by
    have hl' : s.length ≤ n := by simpa using hl
    obtain ⟨B1, C1, e1, b1, c1⟩ := bal_split n s (h + 1) hl' p
    have hl2 : C1.length ≤ n := by
      have : s.length = B1.length + (C1.length + 1) := by rw [e1]; simp
      omega
    obtain ⟨B2, C2, e2, b2, c2⟩ := bal_split n C1 h hl2 c1
    refine ⟨true :: (B1 ++ false :: B2), C2, ?_, ?_, c2⟩
    · rw [e1, e2]
      simp
    · obtain ⟨q1, q2, _⟩ := bal_up 1 b1
      show Bal (B1 ++ false :: B2) 1
      rw [bal_app]
      refine ⟨q1, ?_⟩
      rw [q2]
      exact b2
/-- the k-th opening -/
theorem open_split : ∀ (r : List Bool) (k : Nat), k < ones r → ∃ A R, r = A ++ true :: R ∧ ones A = k
  | [], _, h => by simp [ones] at h
  | true :: r, 0, _ => ⟨[], r, rfl, rfl⟩
  | true :: r, k + 1, h => by
    obtain ⟨A, R, e, q⟩ := open_split r k (by simpa [ones] using h)
    exact ⟨true :: A, R, by rw [e]; rfl, by simp [ones, q]⟩
  | false :: r, k, h => by
    obtain ⟨A, R, e, q⟩ := open_split r k (by simpa [ones] using h)
    exact ⟨false :: A, R, by rw [e]; rfl, by simp [ones, q]⟩
theorem open_uniq : ∀ {A A' R R' : List Bool}, A ++ true :: R = A' ++ true :: R' → ones A = ones A' → A = A' ∧ R = R'
  | [], [], _, _, e, _ => ⟨rfl, (List.cons.inj e).2⟩
  | [], x :: A', _, _, e, h => by
    have e1 := (List.cons.inj e).1
    subst e1
    simp [ones] at h
  | x :: A, [], _, _, e, h => by
    have e1 := (List.cons.inj e).1
    subst e1
    simp [ones] at h
  | x :: A, y :: A', R, R', e, h => by
    obtain ⟨e1, e2⟩ := List.cons.inj e
    subst e1
    have h' : ones A = ones A' := by cases x <;> simpa [ones] using h
    obtain ⟨q1, q2⟩ := open_uniq e2 h'
    exact ⟨by rw [q1], q2⟩
/-- a knot, what is beneath it, the rest -/
theorem knot_split {r : List Bool} {k : Nat} (hb : Bal r 0) (hk : k < ones r) :
    ∃ A B C, r = A ++ true :: (B ++ false :: C) ∧ ones A = k ∧ Nn A 0 ∧ Bal B 0 ∧ Bal C (hgt A 0) := by
  obtain ⟨A, R, e, q⟩ := open_split r k hk
  rw [e, bal_app] at hb
  obtain ⟨n, b⟩ := hb
  obtain ⟨B, C, e2, b1, b2⟩ := bal_split R.length R (hgt A 0) (Nat.le_refl _) b
  exact ⟨A, B, C, by rw [e, e2], q, n, b1, b2⟩
/-! ### the row of depths -/
def rowFrom : List Nat → Nat → List Bool
  | [], h => List.replicate h false
  | d :: ds, h => List.replicate (h - d) false ++ true :: rowFrom ds (d + 1)
def Wd : List Nat → Nat → Prop
  | [], _ => True
  | d :: ds, h => d ≤ h ∧ Wd ds (d + 1)
theorem bal_rep : ∀ (n m : Nat) (X : List Bool), Bal (List.replicate n false ++ X) (n + m) ↔ Bal X m
  | 0, m, X => by simp
  | n + 1, m, X => by
    have e : n + 1 + m = n + m + 1 := by omega
    rw [e, List.replicate_succ]
    exact bal_rep n m X
theorem dep_rep : ∀ (n m : Nat) (X : List Bool), dep (List.replicate n false ++ X) (n + m) = dep X m
  | 0, m, X => by simp
  | n + 1, m, X => by
    have e : n + 1 + m = n + m + 1 := by omega
    rw [e, List.replicate_succ]
    exact dep_rep n m X
theorem row_ok : ∀ (ds : List Nat) (h : Nat), Wd ds h → Bal (rowFrom ds h) h ∧ dep (rowFrom ds h) h = ds
  | [], h, _ => by
    have e1 := (bal_rep h 0 []).mpr rfl
    have e2 := dep_rep h 0 []
    simp only [List.append_nil, Nat.add_zero] at e1 e2
    exact ⟨e1, e2⟩
  | d :: ds, h, ⟨h1, h2⟩ => by
    obtain ⟨q1, q2⟩ := row_ok ds (d + 1) h2
    have e : h = (h - d) + d := by omega
    refine ⟨?_, ?_⟩
    · show Bal (List.replicate (h - d) false ++ true :: rowFrom ds (d + 1)) h
      rw [e, Nat.add_sub_cancel]
      exact (bal_rep _ _ _).mpr q1
    · show dep (List.replicate (h - d) false ++ true :: rowFrom ds (d + 1)) h = d :: ds
      rw [e, Nat.add_sub_cancel, dep_rep]
      simp only [dep]
      rw [q2]
theorem row_drop {ds : List Nat} {h : Nat} (hd : ∀ d, ds.head? = some d → d ≤ h) : rowFrom ds (h + 1) = false :: rowFrom ds h := by
  cases ds with
  | nil => rfl
  | cons d ds =>
    have h1 := hd d rfl
    show List.replicate (h + 1 - d) false ++ _ = false :: (List.replicate (h - d) false ++ _)
    have e : h + 1 - d = (h - d) + 1 := by omega
    rw [e, List.replicate_succ]
    rfl
theorem dep_head : ∀ (r : List Bool) (h : Nat), (∀ d, (dep r h).head? = some d → d ≤ h)
  | [], _, d, e => by simp [dep] at e
  | true :: r, h, d, e => by simp [dep] at e; omega
  | false :: r, h, d, e => by have := dep_head r (h - 1) d e; omega
theorem row_dep : ∀ (r : List Bool) (h : Nat), Bal r h → rowFrom (dep r h) h = r ∧ Wd (dep r h) h
  | [], h, p => by
    have e : h = 0 := p
    subst e
    exact ⟨rfl, trivial⟩
  | true :: r, h, p => by
    obtain ⟨q1, q2⟩ := row_dep r (h + 1) p
    refine ⟨?_, Nat.le_refl _, q2⟩
    show List.replicate (h - h) false ++ true :: rowFrom (dep r (h + 1)) (h + 1) = true :: r
    rw [q1, Nat.sub_self]
    rfl
  | false :: r, 0, p => p.elim
  | false :: r, h + 1, p => by
    obtain ⟨q1, q2⟩ := row_dep r h p
    refine ⟨?_, ?_⟩
    · show rowFrom (dep r h) (h + 1) = false :: r
      rw [row_drop (dep_head r h), q1]
    · show Wd (dep r h) (h + 1)
      cases e : dep r h with
      | nil => trivial
      | cons d ds =>
        rw [e] at q2
        exact ⟨Nat.le_succ_of_le q2.1, q2.2⟩

/-! ## woods: elders by the nearest lower depth -/
/-- e is the nearest place ahead of k with a lower depth than d (it is lower by one), or -1 where d is 0 -/
def NS (ds : List Nat) (k : Nat) (d : Nat) (e : Int) : Prop :=
  (e = -1 ∧ d = 0) ∨ ∃ j : Nat, e = (j : Int) ∧ j < k ∧ (∃ x, ds[j]? = some x ∧ x + 1 = d) ∧ ∀ (i : Nat) (x : Nat), j < i → i < k → ds[i]? = some x → d ≤ x
def WoodD (es : List Int) (ds : List Nat) : Prop := es.length = ds.length ∧ ∀ (k d : Nat), ds[k]? = some d → ∃ e, es[k]? = some e ∧ NS ds k d e
/-- the list of elders of a balanced row -/
def Wood (es : List Int) (r : List Bool) : Prop := Bal r 0 ∧ WoodD es (dep r 0)
theorem NS.lt {ds : List Nat} {k d : Nat} {e : Int} (h : NS ds k d e) : -1 ≤ e ∧ e < k := by
  rcases h with ⟨h, _⟩ | ⟨j, h, hj, _⟩ <;> omega
theorem NS.uniq {ds : List Nat} {k d : Nat} {e e' : Int} (h : NS ds k d e) (h' : NS ds k d e') : e = e' := by
  rcases h with ⟨h, h0⟩ | ⟨j, h, hj, ⟨x, hx, hd⟩, hi⟩
  · rcases h' with ⟨h', _⟩ | ⟨j', h', hj', ⟨x', hx', hd'⟩, hi'⟩
    · omega
    · omega
  · rcases h' with ⟨h', _⟩ | ⟨j', h', hj', ⟨x', hx', hd'⟩, hi'⟩
    · omega
    · have n1 : ¬ j < j' := fun q => by have := hi j' x' q hj' hx'; omega
      have n2 : ¬ j' < j := fun q => by have := hi' j x q hj hx; omega
      omega
/-- only what is ahead counts -/
theorem NS.ext {ds ds' : List Nat} {k d : Nat} {e : Int} (h : NS ds k d e) (he : ∀ i, i < k → ds'[i]? = ds[i]?) : NS ds' k d e := by
  rcases h with h | ⟨j, h, hj, ⟨x, hx, hd⟩, hi⟩
  · exact .inl h
  · exact .inr ⟨j, h, hj, ⟨x, by rw [he j hj]; exact hx, hd⟩, fun i x h1 h2 h3 => hi i x h1 h2 (by rw [← he i h2]; exact h3)⟩
theorem woodD_wd : ∀ (ds : List Nat) (es : List Int), WoodD es ds → Wd ds 0 := by
  have main : ∀ (n : Nat) (pre ds : List Nat), ds.length ≤ n → (∀ (k d : Nat), (pre ++ ds)[k]? = some d → ∃ e, NS (pre ++ ds) k d e) → ∀ h, (match pre.getLast? with | none => 0 | some x => x + 1) = h → Wd ds h := by
    intro n
    induction n with
    | zero =>
      intro pre ds hl _ h _
      cases ds with
      | nil => trivial
      | cons _ _ => simp at hl
    | succ n ih =>
      intro pre ds hl hw h hh
      cases ds with
      | nil => trivial
      | cons d ds =>
        have hd : (pre ++ d :: ds)[pre.length]? = some d := by simp
        obtain ⟨e, he⟩ := hw pre.length d hd
        refine ⟨?_, ?_⟩
        · rcases he with ⟨_, h0⟩ | ⟨j, _, hj, ⟨x, hx, hxd⟩, hi⟩
          · omega
          · have hne : pre ≠ [] := fun z => by subst z; simp at hj
            obtain ⟨init, last, rfl⟩ : ∃ init last, pre = init ++ [last] := ⟨pre.dropLast, pre.getLast hne, (List.dropLast_concat_getLast hne).symm⟩
            rw [List.getLast?_concat] at hh
            simp only at hh
            have hj' : j ≤ init.length := by simp at hj; omega
            by_cases hjl : j = init.length
            · subst hjl
              have : last = x := by simpa using hx
              omega
            · have := hi init.length last (by omega) (by simp) (by simp)
              omega
        · refine ih (pre ++ [d]) ds (by simpa using hl) (fun k x q => ?_) (d + 1) (by rw [List.getLast?_concat])
          rw [List.append_assoc] at q ⊢
          exact hw k x q
  intro ds es hw
  refine main ds.length [] ds (Nat.le_refl _) (fun k d q => ?_) 0 rfl
  obtain ⟨e, _, h⟩ := hw.2 k d q
  exact ⟨e, h⟩
theorem wood_of {es : List Int} {ds : List Nat} (h : WoodD es ds) : Wood es (rowFrom ds 0) := by
  obtain ⟨h1, h2⟩ := row_ok ds 0 (woodD_wd ds es h)
  exact ⟨h1, by rw [h2]; exact h⟩
theorem wood_len {es : List Int} {r : List Bool} (h : Wood es r) : es.length = ones r ∧ r.length = 2 * es.length := by
  have h1 := h.2.1
  rw [dep_len] at h1
  have h2 := bal_ht r 0 h.1
  rw [ht_ones] at h2
  exact ⟨h1, by omega⟩
/-- the stack behind some knots -/
def StkInv (pre st : List Nat) : Prop := (match pre.getLast? with | none => 0 | some x => x + 1) = st.length ∧ ∀ (j s : Nat), st[j]? = some s → pre[s]? = some j ∧ ∀ (i x : Nat), s < i → pre[i]? = some x → j < x
theorem stk_nil : StkInv [] [] := ⟨rfl, fun j s h => by simp at h⟩
theorem stk_push {pre st : List Nat} {d : Nat} (h : StkInv pre st) (hd : d ≤ st.length) : StkInv (pre ++ [d]) (st.take d ++ [pre.length]) := by
  refine ⟨?_, fun j s hj => ?_⟩
  · rw [List.getLast?_concat, List.length_append, List.length_take]
    show d + 1 = _ + 1
    omega
  · have hl : (st.take d).length = d := by rw [List.length_take]; omega
    by_cases hjd : j < d
    · rw [List.getElem?_append_left (by omega), List.getElem?_take] at hj
      rw [if_pos hjd] at hj
      obtain ⟨q1, q2⟩ := h.2 j s hj
      have hs : s < pre.length := (List.getElem?_eq_some_iff.mp q1).1
      refine ⟨by rw [List.getElem?_append_left hs]; exact q1, fun i x hi hx => ?_⟩
      by_cases hil : i < pre.length
      · rw [List.getElem?_append_left hil] at hx
        exact q2 i x hi hx
      · rw [List.getElem?_append_right (by omega)] at hx
        have : i - pre.length = 0 := by
          have := (List.getElem?_eq_some_iff.mp hx).1
          simp at this
          omega
        rw [this] at hx
        have : d = x := by simpa using hx
        omega
    · rw [List.getElem?_append_right (by omega), hl] at hj
      have h0 : j - d = 0 := by
        have := (List.getElem?_eq_some_iff.mp hj).1
        simp at this
        omega
      rw [h0] at hj
      have es : pre.length = s := by simpa using hj
      have ej : j = d := by omega
      subst es ej
      refine ⟨by simp, fun i x hi hx => ?_⟩
      rw [List.getElem?_append_right (by omega)] at hx
      have := (List.getElem?_eq_some_iff.mp hx).1
      simp at this
      omega
/-- where the elder stands on the stack -/
theorem stk_elder {pre st : List Nat} {d : Nat} {e : Int} {ds : List Nat} (h : StkInv pre st) (hn : NS ds pre.length d e) (hp : ∀ i, i < pre.length → ds[i]? = pre[i]?) :
    d ≤ st.length ∧ (d = 0 ∧ e = -1 ∨ ∃ d', d = d' + 1 ∧ ∃ s, st[d']? = some s ∧ e = (s : Int)) ∧ ∀ (m s : Nat), d ≤ m → st[m]? = some s → e ≠ (s : Int) := by
  have hn' : NS pre pre.length d e := hn.ext fun i hi => (hp i hi).symm
  have hd : d ≤ st.length := by
    rcases hn' with ⟨_, h0⟩ | ⟨j, _, hj, ⟨x, hx, hxd⟩, hi⟩
    · omega
    · rw [← h.1]
      have hne : pre ≠ [] := fun z => by subst z; simp at hj
      obtain ⟨init, last, rfl⟩ : ∃ init last, pre = init ++ [last] := ⟨pre.dropLast, pre.getLast hne, (List.dropLast_concat_getLast hne).symm⟩
      rw [List.getLast?_concat]
      show d ≤ last + 1
      by_cases hjl : j = init.length
      · subst hjl
        have : last = x := by simpa using hx
        omega
      · have := hi init.length last (by simp at hj; omega) (by simp) (by simp)
        omega
  have hsome : d = 0 ∧ e = -1 ∨ ∃ d', d = d' + 1 ∧ ∃ s, st[d']? = some s ∧ e = (s : Int) := by
    rcases hn' with ⟨h1, h0⟩ | ⟨j, hj0, hj, ⟨x, hx, hxd⟩, hi⟩
    · exact .inl ⟨h0, h1⟩
    · refine .inr ⟨x, hxd.symm, ?_⟩
      have hx' : x < st.length := by omega
      refine ⟨st[x], List.getElem?_eq_getElem hx', ?_⟩
      obtain ⟨q1, q2⟩ := h.2 x st[x] (List.getElem?_eq_getElem hx')
      have hs : st[x] < pre.length := (List.getElem?_eq_some_iff.mp q1).1
      have n1 : ¬ j < st[x] := fun q => by have := hi _ _ q hs q1; omega
      have n2 : ¬ st[x] < j := fun q => by have := q2 _ _ q hx; omega
      omega
  refine ⟨hd, hsome, fun m s hm hs => ?_⟩
  obtain ⟨q1, q2⟩ := h.2 m s hs
  rcases hn' with ⟨h1, h0⟩ | ⟨j, hj0, hj, ⟨x, hx, hxd⟩, hi⟩
  · omega
  · intro z
    have : j = s := by omega
    subst this
    rw [hx] at q1
    have := Option.some.inj q1
    omega
/-- a new knot at a depth of the stack -/
theorem ns_push {pre st : List Nat} {d : Nat} (h : StkInv pre st) (hd : d ≤ st.length) : NS pre pre.length d (match d with | 0 => -1 | d' + 1 => ((st[d']?.getD 0 : Nat) : Int)) := by
  cases d with
  | zero => exact .inl ⟨rfl, rfl⟩
  | succ d =>
    have hlt : d < st.length := hd
    obtain ⟨q1, q2⟩ := h.2 d st[d] (List.getElem?_eq_getElem hlt)
    refine .inr ⟨st[d], ?_, (List.getElem?_eq_some_iff.mp q1).1, ⟨d, q1, rfl⟩, fun i x h1 _ h3 => q2 i x h1 h3⟩
    simp [List.getElem?_eq_getElem hlt]
theorem woodD_nil : WoodD [] [] := ⟨rfl, fun k d h => by simp at h⟩
theorem woodD_snoc {es : List Int} {ds : List Nat} {d : Nat} {e : Int} (h : WoodD es ds) (hn : NS ds ds.length d e) : WoodD (es ++ [e]) (ds ++ [d]) := by
  refine ⟨by simp [h.1], fun k x hk => ?_⟩
  by_cases hkl : k < ds.length
  · rw [List.getElem?_append_left hkl] at hk
    obtain ⟨e', h1, h2⟩ := h.2 k x hk
    exact ⟨e', by rw [List.getElem?_append_left (by rw [h.1]; exact hkl)]; exact h1, h2.ext fun i hi => by rw [List.getElem?_append_left (by omega)]⟩
  · rw [List.getElem?_append_right (by omega)] at hk
    have h0 : k - ds.length = 0 := by
      have := (List.getElem?_eq_some_iff.mp hk).1
      simp at this
      omega
    rw [h0] at hk
    have e1 : d = x := by simpa using hk
    have e2 : k = ds.length := by omega
    subst e1 e2
    exact ⟨e, by rw [← h.1]; simp, hn.ext fun i hi => by rw [List.getElem?_append_left hi]⟩

/-! ## cutting out and putting in -/
/-- a knot at k of depth d, what is beneath it ends ahead of e -/
structure KnotAt (ds : List Nat) (k d e : Nat) : Prop where
  at_ : ds[k]? = some d
  lt : k < e
  le : e ≤ ds.length
  in_ : ∀ (i x : Nat), k < i → i < e → ds[i]? = some x → d < x
  out : ∀ x : Nat, ds[e]? = some x → x ≤ d
theorem knot_at {A B C : List Bool} (hA : Nn A 0) (hB : Bal B 0) : KnotAt (dep (A ++ true :: (B ++ false :: C)) 0) (ones A) (hgt A 0) (ones A + 1 + ones B) := by
  obtain ⟨q1, q2, q3⟩ := bal_up (hgt A 0 + 1) hB
  have e : dep (A ++ true :: (B ++ false :: C)) 0 = dep A 0 ++ (hgt A 0 :: ((dep B 0).map (· + (hgt A 0 + 1)) ++ dep C (hgt A 0))) := by
    rw [dep_app]
    simp only [dep]
    rw [dep_app, q2, q3]
    simp [dep]
  have l1 : (dep A 0).length = ones A := dep_len A 0
  have l2 : ((dep B 0).map (· + (hgt A 0 + 1))).length = ones B := by rw [List.length_map, dep_len]
  rw [e]
  refine ⟨?_, by omega, ?_, fun i x h1 h2 h3 => ?_, fun x h3 => ?_⟩
  · rw [List.getElem?_append_right (by omega), l1, Nat.sub_self]
    rfl
  · rw [List.length_append, List.length_cons, List.length_append, l1, l2]
    omega
  · rw [List.getElem?_append_right (by omega), l1] at h3
    obtain ⟨m, hm⟩ : ∃ m, i - ones A = m + 1 := ⟨i - ones A - 1, by omega⟩
    rw [hm, List.getElem?_cons_succ, List.getElem?_append_left (by omega), List.getElem?_map] at h3
    cases q : (dep B 0)[m]? with
    | none =>
      rw [q] at h3
      cases h3
    | some y =>
      rw [q] at h3
      have : y + (hgt A 0 + 1) = x := Option.some.inj h3
      omega
  · rw [List.getElem?_append_right (by omega), l1] at h3
    have hm : ones A + 1 + ones B - ones A = ones B + 1 := by omega
    rw [hm, List.getElem?_cons_succ, List.getElem?_append_right (by omega), l2, Nat.sub_self] at h3
    exact dep_head C (hgt A 0) x (by rw [List.head?_eq_getElem?]; exact h3)
/-- the law's end -/
def lend (es : List Int) (k : Int) (e : Nat) : Nat := e + ((es.drop e).takeWhile fun x => decide (k ≤ x)).length
theorem tw_len {p : Int → Bool} : ∀ (l : List Int) (m : Nat), m ≤ l.length → (∀ (i : Nat) (x : Int), i < m → l[i]? = some x → p x = true) → (∀ x, l[m]? = some x → p x = false) → (l.takeWhile p).length = m
  | [], m, h, _, _ => by simp at h; subst h; rfl
  | x :: l, 0, _, _, h3 => by
    have := h3 x rfl
    simp [this]
  | x :: l, m + 1, h, h2, h3 => by
    have h4 := h2 0 x (by omega) rfl
    rw [List.takeWhile_cons_of_pos h4, List.length_cons, tw_len l m (by simpa using h) (fun i y hi hy => h2 (i + 1) y (by omega) (by simpa using hy)) (fun y hy => h3 y (by simpa using hy))]
theorem knot_in {es : List Int} {ds : List Nat} {k d e : Nat} (hw : WoodD es ds) (K : KnotAt ds k d e) {i x : Nat} {y : Int} (h1 : k < i) (h2 : i < e) (hx : ds[i]? = some x) (hy : es[i]? = some y) : (k : Int) ≤ y := by
  obtain ⟨y', q1, q2⟩ := hw.2 i x hx
  rw [hy] at q1
  have e1 := Option.some.inj q1
  subst e1
  have hdx := K.in_ i x h1 h2 hx
  rcases q2 with ⟨_, h0⟩ | ⟨j, hj0, hj, ⟨z, hz, hzd⟩, hi⟩
  · omega
  · have : ¬ j < k := fun q => by have := hi k d q h1 K.at_; omega
    omega
theorem knot_out {es : List Int} {ds : List Nat} {k d e : Nat} (hw : WoodD es ds) (K : KnotAt ds k d e) {y : Int} (hy : es[e]? = some y) : y < (k : Int) := by
  have hl : e < ds.length := by
    have := (List.getElem?_eq_some_iff.mp hy).1
    have := hw.1
    omega
  obtain ⟨y', q1, q2⟩ := hw.2 e ds[e] (List.getElem?_eq_getElem hl)
  rw [hy] at q1
  have e1 := Option.some.inj q1
  subst e1
  have hx := K.out ds[e] (List.getElem?_eq_getElem hl)
  rcases q2 with ⟨h0, _⟩ | ⟨j, hj0, hj, ⟨z, hz, hzd⟩, hi⟩
  · omega
  · have n1 : ¬ j = k := fun q => by
      subst q
      rw [K.at_] at hz
      have := Option.some.inj hz
      omega
    have n2 : ¬ k < j := fun q => by have := K.in_ j z q hj hz; omega
    omega
theorem lend_eq {es : List Int} {ds : List Nat} {k d e : Nat} (hw : WoodD es ds) (K : KnotAt ds k d e) : lend es k (k + 1) = e := by
  have hl := hw.1
  have hle := K.le
  have hlt := K.lt
  unfold lend
  rw [tw_len (es.drop (k + 1)) (e - (k + 1)) (by rw [List.length_drop]; omega) (fun i x hi hx => ?_) (fun x hx => ?_)]
  · omega
  · rw [List.getElem?_drop] at hx
    have hd : k + 1 + i < ds.length := by omega
    exact decide_eq_true (knot_in hw K (by omega) (by omega) (List.getElem?_eq_getElem hd) hx)
  · rw [List.getElem?_drop] at hx
    have e2 : k + 1 + (e - (k + 1)) = e := by omega
    rw [e2] at hx
    have := knot_out hw K hx
    exact decide_eq_false (by omega)
/-- the elders without a knot -/
def wout (es : List Int) (k e : Nat) : List Int := es.take k ++ (es.drop e).map fun x => if (k : Int) ≤ x then x - e + k else x
theorem get_cut {α : Type} {l : List α} {k e i : Nat} (hk : k ≤ l.length) : (l.take k ++ l.drop e)[i]? = if i < k then l[i]? else l[i - k + e]? := by
  by_cases h : i < k
  · rw [if_pos h, List.getElem?_append_left (by rw [List.length_take]; omega), List.getElem?_take, if_pos h]
  · rw [if_neg h, List.getElem?_append_right (by rw [List.length_take]; omega), List.length_take, List.getElem?_drop]
    congr 1
    omega
theorem woodD_cut {es : List Int} {ds : List Nat} {k d e : Nat} (hw : WoodD es ds) (K : KnotAt ds k d e) : WoodD (wout es k e) (ds.take k ++ ds.drop e) := by
  have hl := hw.1
  have hle := K.le
  have hlt := K.lt
  refine ⟨by simp [wout, hl], fun i x hx => ?_⟩
  rw [get_cut (by omega)] at hx
  by_cases hik : i < k
  · rw [if_pos hik] at hx
    obtain ⟨y, q1, q2⟩ := hw.2 i x hx
    refine ⟨y, ?_, q2.ext fun m hm => by rw [get_cut (by omega), if_pos (by omega)]⟩
    unfold wout
    rw [List.getElem?_append_left (by rw [List.length_take]; omega), List.getElem?_take, if_pos hik]
    exact q1
  · rw [if_neg hik] at hx
    have hi' : i - k + e < ds.length := (List.getElem?_eq_some_iff.mp hx).1
    obtain ⟨y, q1, q2⟩ := hw.2 (i - k + e) x hx
    refine ⟨if (k : Int) ≤ y then y - e + k else y, ?_, ?_⟩
    · unfold wout
      rw [List.getElem?_append_right (by rw [List.length_take]; omega), List.length_take, List.getElem?_map, List.getElem?_drop]
      have e1 : e + (i - min k es.length) = i - k + e := by omega
      rw [e1, q1]
      rfl
    · have old : ∀ m, k ≤ m → (ds.take k ++ ds.drop e)[m]? = ds[m - k + e]? := fun m hm => by rw [get_cut (by omega), if_neg (by omega)]
      have old2 : ∀ m, m < k → (ds.take k ++ ds.drop e)[m]? = ds[m]? := fun m hm => by rw [get_cut (by omega), if_pos hm]
      rcases q2 with ⟨h1, h0⟩ | ⟨j, hj0, hj, ⟨z, hz, hzd⟩, hi⟩
      · rw [if_neg (by omega)]
        exact .inl ⟨h1, h0⟩
      · have nin : ¬ (k ≤ j ∧ j < e) := fun ⟨a, b⟩ => by
          have hzk : d ≤ z := by
            by_cases hjk : j = k
            · subst hjk
              rw [K.at_] at hz
              have := Option.some.inj hz
              omega
            · have := K.in_ j z (by omega) b hz
              omega
          have he : e < ds.length := by omega
          have ho := K.out ds[e] (List.getElem?_eq_getElem he)
          by_cases hie : i - k + e = e
          · rw [hie, List.getElem?_eq_getElem he] at hx
            have := Option.some.inj hx
            omega
          · have := hi e ds[e] b (by omega) (List.getElem?_eq_getElem he)
            omega
        by_cases hjk : j < k
        · rw [if_neg (by omega)]
          refine .inr ⟨j, hj0, by omega, ⟨z, by rw [old2 j hjk]; exact hz, hzd⟩, fun m w h1 h2 h3 => ?_⟩
          by_cases hmk : m < k
          · rw [old2 m hmk] at h3
            exact hi m w h1 (by omega) h3
          · rw [old m (by omega)] at h3
            exact hi (m - k + e) w (by omega) (by omega) h3
        · rw [if_pos (by omega)]
          refine .inr ⟨j - e + k, by omega, by omega, ⟨z, ?_, hzd⟩, fun m w h1 h2 h3 => ?_⟩
          · rw [old _ (by omega)]
            have e1 : j - e + k - k + e = j := by omega
            rw [e1]
            exact hz
          · rw [old m (by omega)] at h3
            exact hi (m - k + e) w (by omega) (by omega) h3
theorem wood_cut {es : List Int} {A B C : List Bool} (hw : Wood es (A ++ true :: (B ++ false :: C))) (hA : Nn A 0) (hB : Bal B 0) (hC : Bal C (hgt A 0)) : Wood (wout es (ones A) (ones A + 1 + ones B)) (A ++ C) := by
  refine ⟨(bal_app A C 0).mpr ⟨hA, hC⟩, ?_⟩
  have q := woodD_cut hw.2 (knot_at (C := C) hA hB)
  obtain ⟨q1, q2, q3⟩ := bal_up (hgt A 0 + 1) hB
  have e : dep (A ++ true :: (B ++ false :: C)) 0 = dep A 0 ++ (hgt A 0 :: (dep B (hgt A 0 + 1) ++ dep C (hgt A 0))) := by
    rw [dep_app]
    simp only [dep]
    rw [dep_app, q2]
    simp [dep]
  have l1 : (dep A 0).length = ones A := dep_len A 0
  have l2 : (dep B (hgt A 0 + 1)).length = ones B := dep_len _ _
  rw [dep_app A C 0]
  rw [e] at q
  rw [List.take_append_of_le_length (by omega), ← l1, List.take_length, List.drop_append] at q
  have e2 : (dep A 0).length + 1 + ones B - (dep A 0).length = ones B + 1 := by omega
  rw [e2, List.drop_succ_cons, List.drop_append, l2, Nat.sub_self, List.drop_zero, List.drop_of_length_le (by omega), List.drop_of_length_le (by omega)] at q
  rw [l1] at q
  exact q
/-- the elders with a wood put in -/
def wins (es : List Int) (a : Nat) (k : Int) (os : List Int) : List Int := es.take a ++ (os.map fun x => if x < 0 then k else x + a) ++ (es.drop a).map fun x => if (a : Int) ≤ x then x + os.length else x
theorem get_ins {α : Type} {l t : List α} {a i : Nat} (ha : a ≤ l.length) : (l.take a ++ t ++ l.drop a)[i]? = if i < a then l[i]? else if i < a + t.length then t[i - a]? else l[i - t.length]? := by
  rw [List.append_assoc]
  by_cases h : i < a
  · rw [if_pos h, List.getElem?_append_left (by rw [List.length_take]; omega), List.getElem?_take, if_pos h]
  · rw [if_neg h, List.getElem?_append_right (by rw [List.length_take]; omega), List.length_take]
    have e1 : i - min a l.length = i - a := by omega
    rw [e1]
    by_cases h2 : i < a + t.length
    · rw [if_pos h2, List.getElem?_append_left (by omega)]
    · rw [if_neg h2, List.getElem?_append_right (by omega), List.getElem?_drop]
      congr 1
      omega
theorem woodD_ins {es os : List Int} {ds ts : List Nat} {a b : Nat} {k : Int} (hw : WoodD es ds) (ho : WoodD os ts) (ha : a ≤ ds.length) (hn : NS ds a b k) (hb : ∀ x, ds[a]? = some x → x ≤ b) :
    WoodD (wins es a k os) (ds.take a ++ ts.map (· + b) ++ ds.drop a) := by
  have hl := hw.1
  have hlo := ho.1
  have lt_ : (ts.map (· + b)).length = ts.length := List.length_map ..
  have gd : ∀ i, (ds.take a ++ ts.map (· + b) ++ ds.drop a)[i]? = if i < a then ds[i]? else if i < a + ts.length then (ts[i - a]?).map (· + b) else ds[i - ts.length]? := fun i => by
    rw [get_ins ha, lt_, List.getElem?_map]
  have ge : ∀ i, (wins es a k os)[i]? = if i < a then es[i]? else if i < a + ts.length then (os[i - a]?).map (fun x => if x < 0 then k else x + a) else (es[i - ts.length]?).map (fun x => if (a : Int) ≤ x then x + os.length else x) := fun i => by
    unfold wins
    by_cases h : i < a
    · rw [if_pos h, List.append_assoc, List.getElem?_append_left (by rw [List.length_take]; omega), List.getElem?_take, if_pos h]
    · rw [if_neg h]
      by_cases h2 : i < a + ts.length
      · rw [if_pos h2, List.append_assoc, List.getElem?_append_right (by rw [List.length_take]; omega), List.length_take, List.getElem?_append_left (by rw [List.length_map]; omega), List.getElem?_map]
        congr 2
        omega
      · rw [if_neg h2, List.getElem?_append_right (by rw [List.length_append, List.length_take, List.length_map]; omega), List.length_append, List.length_take, List.length_map, List.getElem?_map, List.getElem?_drop]
        congr 2
        omega
  refine ⟨by simp [wins, hl, hlo], fun i x hx => ?_⟩
  rw [gd] at hx
  by_cases h : i < a
  · rw [if_pos h] at hx
    obtain ⟨y, q1, q2⟩ := hw.2 i x hx
    exact ⟨y, by rw [ge, if_pos h]; exact q1, q2.ext fun m hm => by rw [gd, if_pos (by omega)]⟩
  · rw [if_neg h] at hx
    by_cases h2 : i < a + ts.length
    · rw [if_pos h2] at hx
      cases ht : ts[i - a]? with
      | none =>
        rw [ht] at hx
        cases hx
      | some z =>
        rw [ht] at hx
        have ex : z + b = x := Option.some.inj hx
        obtain ⟨y, q1, q2⟩ := ho.2 (i - a) z ht
        refine ⟨if y < 0 then k else y + a, by rw [ge, if_neg h, if_pos h2, q1]; rfl, ?_⟩
        rcases q2 with ⟨h1, h0⟩ | ⟨j, hj0, hj, ⟨w, hw1, hw2⟩, hi⟩
        · rw [if_pos (by omega)]
          have ex2 : x = b := by omega
          subst ex2
          have blk : ∀ (m u : Nat), a ≤ m → m < i → (ds.take a ++ ts.map (· + x) ++ ds.drop a)[m]? = some u → x ≤ u := fun m u h5 h6 h7 => by
            rw [gd, if_neg (by omega), if_pos (by omega)] at h7
            cases hu : ts[m - a]? with
            | none =>
              rw [hu] at h7
              cases h7
            | some v =>
              rw [hu] at h7
              have : v + x = u := Option.some.inj h7
              omega
          rcases hn with ⟨n1, n2⟩ | ⟨j, n1, n2, ⟨w, n3, n4⟩, n5⟩
          · exact .inl ⟨n1, n2⟩
          · refine .inr ⟨j, n1, by omega, ⟨w, by rw [gd, if_pos n2]; exact n3, n4⟩, fun m u h5 h6 h7 => ?_⟩
            by_cases hm : m < a
            · rw [gd, if_pos hm] at h7
              exact n5 m u h5 hm h7
            · exact blk m u (by omega) h6 h7
        · rw [if_neg (by omega)]
          refine .inr ⟨j + a, by omega, by omega, ⟨w + b, ?_, by omega⟩, fun m u h5 h6 h7 => ?_⟩
          · rw [gd, if_neg (by omega), if_pos (by omega), Nat.add_sub_cancel, hw1]
            rfl
          · rw [gd, if_neg (by omega), if_pos (by omega)] at h7
            cases hu : ts[m - a]? with
            | none =>
              rw [hu] at h7
              cases h7
            | some v =>
              rw [hu] at h7
              have e9 : v + b = u := Option.some.inj h7
              have := hi (m - a) v (by omega) (by omega) hu
              omega
    · rw [if_neg h2] at hx
      have hlen : i - ts.length < ds.length := (List.getElem?_eq_some_iff.mp hx).1
      obtain ⟨y, q1, q2⟩ := hw.2 (i - ts.length) x hx
      refine ⟨if (a : Int) ≤ y then y + os.length else y, by rw [ge, if_neg h, if_neg h2, q1]; rfl, ?_⟩
      rcases q2 with ⟨h1, h0⟩ | ⟨j, hj0, hj, ⟨w, hw1, hw2⟩, hi⟩
      · rw [if_neg (by omega)]
        exact .inl ⟨h1, h0⟩
      · by_cases hja : j < a
        · rw [if_neg (by omega)]
          have hxb : x ≤ b := by
            by_cases hia : i - ts.length = a
            · exact hb x (by rw [← hia]; exact hx)
            · have hal : a < ds.length := by omega
              have h8 := hi a ds[a] hja (by omega) (List.getElem?_eq_getElem hal)
              have h9 := hb ds[a] (List.getElem?_eq_getElem hal)
              omega
          refine .inr ⟨j, hj0, by omega, ⟨w, by rw [gd, if_pos hja]; exact hw1, hw2⟩, fun m u h5 h6 h7 => ?_⟩
          rw [gd] at h7
          by_cases hm : m < a
          · rw [if_pos hm] at h7
            exact hi m u h5 (by omega) h7
          · rw [if_neg hm] at h7
            by_cases hm2 : m < a + ts.length
            · rw [if_pos hm2] at h7
              cases hu : ts[m - a]? with
              | none =>
                rw [hu] at h7
                cases h7
              | some v =>
                rw [hu] at h7
                have : v + b = u := Option.some.inj h7
                omega
            · rw [if_neg hm2] at h7
              exact hi (m - ts.length) u (by omega) (by omega) h7
        · rw [if_pos (by omega)]
          refine .inr ⟨j + ts.length, by omega, by omega, ⟨w, ?_, hw2⟩, fun m u h5 h6 h7 => ?_⟩
          · rw [gd, if_neg (by omega), if_neg (by omega), Nat.add_sub_cancel]
            exact hw1
          · rw [gd, if_neg (by omega), if_neg (by omega)] at h7
            exact hi (m - ts.length) u (by omega) (by omega) h7
theorem wood_ins {es os : List Int} {P R T : List Bool} {k : Int} (hw : Wood es (P ++ R)) (ho : Wood os T) (hn : NS (dep (P ++ R) 0) (ones P) (hgt P 0) k) : Wood (wins es (ones P) k os) (P ++ T ++ R) := by
  obtain ⟨hb, hd⟩ := hw
  rw [bal_app] at hb
  obtain ⟨q1, q2, q3⟩ := bal_up (hgt P 0) ho.1
  have l1 : (dep P 0).length = ones P := dep_len P 0
  refine ⟨?_, ?_⟩
  · rw [List.append_assoc, bal_app, bal_app, q2]
    exact ⟨hb.1, q1, hb.2⟩
  · have q := woodD_ins hd ho.2 (a := ones P) (b := hgt P 0) (k := k) (by rw [dep_len, ones_app]; omega) hn (fun x hx => by
      rw [dep_app, List.getElem?_append_right (by omega), l1, Nat.sub_self] at hx
      exact dep_head R (hgt P 0) x (by rw [List.head?_eq_getElem?]; exact hx))
    have e1 : dep (P ++ T ++ R) 0 = dep P 0 ++ (dep T 0).map (· + hgt P 0) ++ dep R (hgt P 0) := by
      rw [List.append_assoc, dep_app, dep_app, q2, q3, List.append_assoc]
    rw [e1]
    rw [dep_app P R 0, List.take_append_of_le_length (by omega), List.drop_append_of_le_length (by omega), ← l1, List.take_length, List.drop_length, List.nil_append] at q
    rw [l1] at q
    exact q

/-! ## children -/
/-- tops_in -/
def tops : Int → Int → List Bool → List Int
  | _, _, [] => []
  | h, f, true :: t => (if h = 0 then [f] else []) ++ tops (h + 1) (f + 1) t
  | h, f, false :: t => tops (h - 1) f t
def lsome (es : List Int) (k : Int) : List Nat := (List.range es.length).filter fun i => decide (es[i]? = some k)
/-- tops, the depths at hand -/
theorem tops_dep : ∀ (l : List Bool) (h : Nat) (f : Int), Nn l h → tops h f l = ((List.range (ones l)).filter fun i => decide ((dep l h)[i]? = some 0)).map fun (i : Nat) => f + (i : Int)
  | [], _, _, _ => rfl
  | true :: l, h, f, p => by
    have ih := tops_dep l (h + 1) (f + 1) p
    have e1 : ((h : Int) + 1) = ((h + 1 : Nat) : Int) := by omega
    show (if (h : Int) = 0 then [f] else []) ++ tops ((h : Int) + 1) (f + 1) l = ((List.range (ones l + 1)).filter fun i => decide ((h :: dep l (h + 1))[i]? = some 0)).map fun (i : Nat) => f + (i : Int)
    rw [e1, ih, List.range_succ_eq_map, List.filter_cons, List.filter_map]
    have e2 : ((fun i => decide ((h :: dep l (h + 1))[i]? = some 0)) ∘ Nat.succ) = fun i => decide ((dep l (h + 1))[i]? = some 0) := by
      funext i
      simp
    rw [e2]
    have e3 : ((fun (i : Nat) => f + (i : Int)) ∘ Nat.succ) = fun (i : Nat) => f + 1 + (i : Int) := by
      funext i
      simp
      omega
    by_cases hz : h = 0
    · subst hz
      rw [if_pos (by rfl), if_pos (by simp), List.map_cons, List.map_map, e3]
      simp
    · rw [if_neg (by omega), if_neg (by simp [hz]), List.map_map, e3]
      rfl
  | false :: l, 0, _, p => p.elim
  | false :: l, h + 1, f, p => by
    have ih := tops_dep l h f p
    simp only [tops, dep, ones, Nat.add_sub_cancel]
    have e1 : ((h + 1 : Nat) : Int) - 1 = (h : Int) := by omega
    rw [e1, ih]
/-- a child of k -/
theorem child_iff {es : List Int} {ds : List Nat} {k d e i : Nat} (hw : WoodD es ds) (K : KnotAt ds k d e) : es[i]? = some (k : Int) ↔ (k < i ∧ i < e ∧ ds[i]? = some (d + 1)) := by
  have hl := hw.1
  have hle := K.le
  constructor
  · intro h
    have hi : i < ds.length := by
      have := (List.getElem?_eq_some_iff.mp h).1
      omega
    obtain ⟨y, q1, q2⟩ := hw.2 i ds[i] (List.getElem?_eq_getElem hi)
    rw [h] at q1
    have e1 := Option.some.inj q1
    subst e1
    rcases q2 with ⟨h1, h0⟩ | ⟨j, hj0, hj, ⟨z, hz, hzd⟩, hm⟩
    · omega
    · have ej : j = k := by omega
      subst ej
      rw [K.at_] at hz
      have ez := Option.some.inj hz
      subst ez
      refine ⟨hj, ?_, by rw [List.getElem?_eq_getElem hi, ← hzd]⟩
      by_cases hie : i < e
      · exact hie
      · exfalso
        have hel : e < ds.length := by omega
        have ho := K.out ds[e] (List.getElem?_eq_getElem hel)
        by_cases hie2 : i = e
        · subst hie2
          omega
        · have := hm e ds[e] K.lt (by omega) (List.getElem?_eq_getElem hel)
          omega
  · rintro ⟨h1, h2, h3⟩
    obtain ⟨y, q1, q2⟩ := hw.2 i (d + 1) h3
    rcases q2 with ⟨_, h0⟩ | ⟨j, hj0, hj, ⟨z, hz, hzd⟩, hm⟩
    · omega
    · have n1 : ¬ j < k := fun q => by have := hm k d q h1 K.at_; omega
      have n2 : ¬ k < j := fun q => by have := K.in_ j z q (by omega) hz; omega
      have ej : j = k := by omega
      rw [q1, hj0, ej]
theorem top_iff {es : List Int} {ds : List Nat} {i : Nat} (hw : WoodD es ds) : es[i]? = some (-1) ↔ ds[i]? = some 0 := by
  have hl := hw.1
  constructor
  · intro h
    have hi : i < ds.length := by
      have := (List.getElem?_eq_some_iff.mp h).1
      omega
    obtain ⟨y, q1, q2⟩ := hw.2 i ds[i] (List.getElem?_eq_getElem hi)
    rw [h] at q1
    have e1 := Option.some.inj q1
    subst e1
    rcases q2 with ⟨_, h0⟩ | ⟨j, hj0, _⟩
    · rw [List.getElem?_eq_getElem hi, h0]
    · omega
  · intro h
    obtain ⟨y, q1, q2⟩ := hw.2 i 0 h
    rcases q2 with ⟨h1, _⟩ | ⟨j, hj0, hj, ⟨z, hz, hzd⟩, hm⟩
    · rw [q1, h1]
    · omega
theorem tops_all {es : List Int} {r : List Bool} (hw : Wood es r) : tops 0 0 r = (lsome es (-1)).map fun (i : Nat) => (i : Int) := by
  have e := tops_dep r 0 0 (bal_nn r 0 hw.1).1
  rw [show ((0 : Nat) : Int) = 0 from rfl] at e
  rw [e]
  unfold lsome
  rw [(wood_len hw).1]
  have e2 : (fun (i : Nat) => decide ((dep r 0)[i]? = some 0)) = fun (i : Nat) => decide (es[i]? = some (-1)) := by
    funext i
    exact decide_eq_decide.mpr (top_iff hw.2).symm
  rw [e2]
  congr 1
  funext i
  omega
theorem tops_kids {es : List Int} {A B C : List Bool} (hw : Wood es (A ++ true :: (B ++ false :: C))) (hA : Nn A 0) (hB : Bal B 0) : tops 0 ((ones A : Int) + 1) B = (lsome es (ones A)).map fun (i : Nat) => (i : Int) := by
  have hK := knot_at (C := C) hA hB
  have e := tops_dep B 0 ((ones A : Int) + 1) (bal_nn B 0 hB).1
  rw [show ((0 : Nat) : Int) = 0 from rfl] at e
  rw [e]
  unfold lsome
  have hl := hw.2.1
  have hle := hK.le
  have e0 : List.range es.length = List.range (ones A + 1) ++ ((List.range (ones B)).map (fun x => ones A + 1 + x) ++ ((List.range (es.length - (ones A + 1 + ones B))).map (fun x => ones B + x)).map (fun x => ones A + 1 + x)) := by
    rw [← List.map_append, ← List.range_add, ← List.range_add]
    congr 1
    omega
  rw [e0, List.filter_append, List.filter_append]
  have f1 : (List.range (ones A + 1)).filter (fun i => decide (es[i]? = some ((ones A : Nat) : Int))) = [] := by
    rw [List.filter_eq_nil_iff]
    intro i hi hd
    have h1 := List.mem_range.mp hi
    have h2 := (child_iff hw.2 hK).mp (of_decide_eq_true hd)
    omega
  have f3 : ((List.map (fun x => ones B + x) (List.range (es.length - (ones A + 1 + ones B)))).map (fun x => ones A + 1 + x)).filter (fun i => decide (es[i]? = some ((ones A : Nat) : Int))) = [] := by
    rw [List.filter_eq_nil_iff]
    intro i hi hd
    obtain ⟨m, hm, rfl⟩ := List.mem_map.mp hi
    obtain ⟨m2, hm2, rfl⟩ := List.mem_map.mp hm
    have h2 := (child_iff hw.2 hK).mp (of_decide_eq_true hd)
    omega
  rw [f1, f3, List.append_nil, List.nil_append, List.filter_map, List.map_map]
  have e2 : ((fun i => decide (es[i]? = some ((ones A : Nat) : Int))) ∘ fun x => ones A + 1 + x) = fun (x : Nat) => decide ((dep (A ++ true :: (B ++ false :: C)) 0)[ones A + 1 + x]? = some (hgt A 0 + 1) ∧ x < ones B) := by
    funext x
    refine decide_eq_decide.mpr ((child_iff (i := ones A + 1 + x) hw.2 hK).trans ⟨fun ⟨a, b, c⟩ => ⟨c, by omega⟩, fun ⟨a, b⟩ => ⟨by omega, by omega, a⟩⟩)
  rw [e2]
  have e3 : (List.range (ones B)).filter (fun i => decide ((dep B 0)[i]? = some 0)) = (List.range (ones B)).filter (fun (x : Nat) => decide ((dep (A ++ true :: (B ++ false :: C)) 0)[ones A + 1 + x]? = some (hgt A 0 + 1) ∧ x < ones B)) := by
    refine List.filter_congr fun x hx => ?_
    have hx' := List.mem_range.mp hx
    refine decide_eq_decide.mpr ?_
    obtain ⟨q1, q2, q3⟩ := bal_up (hgt A 0 + 1) hB
    have e4 : (dep (A ++ true :: (B ++ false :: C)) 0)[ones A + 1 + x]? = ((dep B 0)[x]?).map (· + (hgt A 0 + 1)) := by
      rw [dep_app, List.getElem?_append_right (by rw [dep_len]; omega), dep_len]
      have e5 : ones A + 1 + x - ones A = x + 1 := by omega
      rw [e5]
      simp only [dep, List.getElem?_cons_succ]
      rw [dep_app, List.getElem?_append_left (by rw [dep_len]; exact hx'), q3, List.getElem?_map]
    rw [e4]
    cases h : (dep B 0)[x]? with
    | none => simp
    | some y =>
      simp
      omega
  rw [e3]
  refine congrArg (fun g => List.map g _) (funext fun x => ?_)
  show ((ones A : Int) + 1) + (x : Int) = ((ones A + 1 + x : Nat) : Int)
  omega
theorem lsome_mem {es : List Int} {k : Int} {i : Nat} (h : i ∈ lsome es k) : i < es.length ∧ es[i]? = some k := by
  unfold lsome at h
  obtain ⟨h1, h2⟩ := List.mem_filter.mp h
  exact ⟨List.mem_range.mp h1, of_decide_eq_true h2⟩
/-! ## many copies -/
theorem wins_end (es : List Int) (k : Int) (os : List Int) : wins es es.length k os = es ++ os.map fun x => if x < 0 then k else x + es.length := by
  unfold wins
  rw [List.take_length, List.drop_length]
  simp
/-- one copy more, beside or beneath the last knot -/
theorem woodD_more {es os : List Int} {ds ts : List Nat} {k : Int} (hw : WoodD es ds) (ho : WoodD os ts) (hk : k = -1 ∨ k = (es.length : Int) - 1) : ∃ ds', WoodD (es ++ os.map fun x => if x < 0 then k else x + es.length) ds' := by
  have hl := hw.1
  rw [← wins_end]
  by_cases hk1 : k = -1
  · subst hk1
    refine ⟨_, woodD_ins (b := 0) hw ho (by omega) (.inl ⟨rfl, rfl⟩) (fun x hx => ?_)⟩
    have := (List.getElem?_eq_some_iff.mp hx).1
    omega
  · have hk2 : k = (es.length : Int) - 1 := by
      rcases hk with h | h
      · exact absurd h hk1
      · exact h
    have hp : 0 < ds.length := by omega
    have hlast : ds[ds.length - 1]? = some ds[ds.length - 1] := List.getElem?_eq_getElem (by omega)
    refine ⟨_, woodD_ins (b := ds[ds.length - 1] + 1) hw ho (by omega) (.inr ⟨ds.length - 1, by omega, by omega, ⟨_, hlast, rfl⟩, fun i x h1 h2 _ => by omega⟩) (fun x hx => ?_)⟩
    have := (List.getElem?_eq_some_iff.mp hx).1
    omega

/-! ## pieces -/
def cuts (l : List Bool) : List (List Bool) := (List.range ((l.length + 127) / 128)).map fun k => (l.drop (l.length * k / ((l.length + 127) / 128))).take (l.length * (k + 1) / ((l.length + 127) / 128) - l.length * k / ((l.length + 127) / 128))
structure Form (parts : List (List Bool)) : Prop where
  sz : ∀ p ∈ parts, 1 ≤ p.length ∧ p.length ≤ 128
  nb : ∀ (i : Nat) (p q : List Bool), parts[i]? = some p → parts[i + 1]? = some q → 64 < p.length + q.length
theorem div_step {n k m : Nat} (hm : 0 < m) : n * k / m + n / m ≤ n * (k + 1) / m ∧ n * (k + 1) / m ≤ n * k / m + (n + m - 1) / m := by
  have e : n * (k + 1) = n * k + n := Nat.mul_succ n k
  have h1 := Nat.div_add_mod (n * k) m
  have h2 := Nat.mod_lt (n * k) hm
  have h3 := Nat.div_add_mod n m
  have h4 := Nat.mod_lt n hm
  rw [e]
  constructor
  · rw [Nat.le_div_iff_mul_le hm]
    have e2 : (n * k / m + n / m) * m = m * (n * k / m) + m * (n / m) := by rw [Nat.add_mul, Nat.mul_comm _ m, Nat.mul_comm _ m]
    omega
  · rw [← Nat.lt_succ_iff, Nat.div_lt_iff_lt_mul hm]
    have h5 : n ≤ m * ((n + m - 1) / m) := by
      have := Nat.div_add_mod (n + m - 1) m
      have := Nat.mod_lt (n + m - 1) hm
      omega
    have e2 : (n * k / m + (n + m - 1) / m).succ * m = m * (n * k / m) + m * ((n + m - 1) / m) + m := by rw [Nat.succ_mul, Nat.add_mul, Nat.mul_comm _ m, Nat.mul_comm _ m]
    omega
theorem div_mono {n k m : Nat} (hk : k ≤ m) (hm : 0 < m) : n * k / m ≤ n := by
  have : n * k ≤ n * m := Nat.mul_le_mul_left n hk
  have h2 := Nat.div_le_div_right (c := m) this
  rw [Nat.mul_div_cancel _ hm] at h2
  exact h2
theorem cuts_flat_aux (l : List Bool) {m : Nat} (hm : 0 < m) : ∀ j, j ≤ m → ((List.range j).map fun k => (l.drop (l.length * k / m)).take (l.length * (k + 1) / m - l.length * k / m)).flatten = l.take (l.length * j / m)
  | 0, _ => by simp
  | j + 1, hj => by
    rw [List.range_succ, List.map_append, List.flatten_append, cuts_flat_aux l hm j (by omega)]
    have h1 := (div_step (n := l.length) (k := j) hm).1
    simp only [List.map_cons, List.map_nil, List.flatten_cons, List.flatten_nil, List.append_nil]
    have e : l.length * (j + 1) / m = l.length * j / m + (l.length * (j + 1) / m - l.length * j / m) := by
      have := Nat.le_trans (Nat.le_add_right (l.length * j / m) (l.length / m)) h1
      omega
    conv => rhs; rw [e]
    rw [List.take_add]
theorem cuts_m {n : Nat} (h : 0 < n) : 0 < (n + 127) / 128 ∧ (n + 127) / 128 ≤ n ∧ n ≤ 128 * ((n + 127) / 128) ∧ 128 * ((n + 127) / 128) ≤ n + 127 := by omega
theorem cuts_flat (l : List Bool) : (cuts l).flatten = l := by
  unfold cuts
  by_cases h : l.length = 0
  · rw [h]
    have : l = [] := List.length_eq_zero_iff.mp h
    subst this
    rfl
  · have hm := cuts_m (n := l.length) (by omega)
    rw [cuts_flat_aux l hm.1 _ (Nat.le_refl _), Nat.mul_div_cancel _ hm.1, List.take_length]
theorem cuts_len (l : List Bool) : (cuts l).length = (l.length + 127) / 128 := by simp [cuts]
theorem cuts_at {l : List Bool} {k : Nat} {p : List Bool} (h : (cuts l)[k]? = some p) : l.length / ((l.length + 127) / 128) ≤ p.length ∧ p.length ≤ (l.length + (l.length + 127) / 128 - 1) / ((l.length + 127) / 128) := by
  unfold cuts at h
  rw [List.getElem?_map] at h
  by_cases hk : k < (l.length + 127) / 128
  · rw [List.getElem?_range hk] at h
    have e := Option.some.inj h
    subst e
    have hm : 0 < (l.length + 127) / 128 := by omega
    have h1 := div_step (n := l.length) (k := k) hm
    have h2 := div_mono (n := l.length) (k := k + 1) (m := (l.length + 127) / 128) hk hm
    rw [List.length_take, List.length_drop]
    generalize l.length * (k + 1) / ((l.length + 127) / 128) = x at *
    generalize l.length * k / ((l.length + 127) / 128) = y at *
    generalize l.length / ((l.length + 127) / 128) = z at *
    generalize (l.length + (l.length + 127) / 128 - 1) / ((l.length + 127) / 128) = u at *
    omega
  · rw [List.getElem?_eq_none (by simpa using hk)] at h
    cases h
theorem div_low {n : Nat} (h : 65 ≤ n) : 64 ≤ n / ((n + 127) / 128) := by
  have hm := cuts_m (n := n) (by omega)
  rw [Nat.le_div_iff_mul_le hm.1]
  by_cases h2 : (n + 127) / 128 ≤ 1
  · have : (n + 127) / 128 = 1 := by omega
    rw [this]
    omega
  · omega
theorem div_high {n : Nat} (h : 0 < n) : (n + (n + 127) / 128 - 1) / ((n + 127) / 128) ≤ 128 := by
  have hm := cuts_m h
  rw [← Nat.lt_succ_iff, Nat.div_lt_iff_lt_mul hm.1]
  omega
theorem div_one {n : Nat} (h : 0 < n) : 1 ≤ n / ((n + 127) / 128) := by
  have hm := cuts_m h
  rw [Nat.le_div_iff_mul_le hm.1]
  omega
theorem cuts_form (l : List Bool) : Form (cuts l) := by
  refine ⟨fun p hp => ?_, fun i p q hp hq => ?_⟩
  · obtain ⟨k, hk⟩ := List.mem_iff_getElem?.mp hp
    have hl : 0 < l.length := by
      have := (List.getElem?_eq_some_iff.mp hk).1
      rw [cuts_len] at this
      omega
    have h1 := cuts_at hk
    have h2 := div_one hl
    have h3 := div_high hl
    omega
  · have hl : 129 ≤ l.length := by
      have := (List.getElem?_eq_some_iff.mp hq).1
      rw [cuts_len] at this
      omega
    have h1 := cuts_at hp
    have h2 := cuts_at hq
    have h3 := div_low (n := l.length) (by omega)
    omega
theorem cuts_big {l : List Bool} (h : 65 ≤ l.length) : ∀ p ∈ cuts l, 64 ≤ p.length := by
  intro p hp
  obtain ⟨k, hk⟩ := List.mem_iff_getElem?.mp hp
  have h1 := cuts_at hk
  have h3 := div_low h
  omega
/-! ### where pieces end -/
def cum (parts : List (List Bool)) (i : Nat) : Nat := (parts.take i).flatten.length
theorem cum_zero (parts : List (List Bool)) : cum parts 0 = 0 := by simp [cum]
theorem cum_succ {parts : List (List Bool)} {i : Nat} {p : List Bool} (h : parts[i]? = some p) : cum parts (i + 1) = cum parts i + p.length := by
  unfold cum
  rw [List.take_succ, h]
  simp
theorem cum_all (parts : List (List Bool)) : cum parts parts.length = parts.flatten.length := by simp [cum]
theorem cum_mono (parts : List (List Bool)) {i j : Nat} (h : i ≤ j) : cum parts i ≤ cum parts j := by
  unfold cum
  obtain ⟨m, rfl⟩ := Nat.exists_eq_add_of_le h
  rw [List.take_add, List.flatten_append, List.length_append]
  omega
theorem cum_lt {parts : List (List Bool)} (hf : ∀ p ∈ parts, 1 ≤ p.length ∧ p.length ≤ 128) {i j : Nat} (h : i < j) (hj : j ≤ parts.length) : cum parts i < cum parts j := by
  have h1 : i < parts.length := by omega
  have h2 := cum_succ (List.getElem?_eq_getElem h1)
  have h3 := hf parts[i] (List.getElem_mem h1)
  have h4 := cum_mono parts (i := i + 1) (j := j) h
  omega
theorem cum_step {parts : List (List Bool)} (hf : ∀ p ∈ parts, 1 ≤ p.length ∧ p.length ≤ 128) (i : Nat) : cum parts (i + 1) ≤ cum parts i + 128 := by
  by_cases h1 : i < parts.length
  · have h2 := cum_succ (List.getElem?_eq_getElem h1)
    have h3 := hf parts[i] (List.getElem_mem h1)
    omega
  · unfold cum
    rw [List.take_of_length_le (by omega), List.take_of_length_le (by omega)]
    omega
theorem cum_top (parts : List (List Bool)) (i : Nat) : cum parts i ≤ parts.flatten.length := by
  rw [← cum_all]
  by_cases h : i ≤ parts.length
  · exact cum_mono parts h
  · unfold cum
    rw [List.take_of_length_le (by omega), List.take_length]
    exact Nat.le_refl _
theorem flat_take (parts : List (List Bool)) (i : Nat) : (parts.take i).flatten = parts.flatten.take (cum parts i) := by
  have e : parts.flatten = (parts.take i).flatten ++ (parts.drop i).flatten := by rw [← List.flatten_append, List.take_append_drop]
  rw [e]
  unfold cum
  rw [List.take_left]
theorem flat_drop (parts : List (List Bool)) (i : Nat) : (parts.drop i).flatten = parts.flatten.drop (cum parts i) := by
  have e : parts.flatten = (parts.take i).flatten ++ (parts.drop i).flatten := by rw [← List.flatten_append, List.take_append_drop]
  rw [e]
  unfold cum
  rw [List.drop_left]
theorem flat_mid (parts : List (List Bool)) {i j : Nat} (h : i ≤ j) : ((parts.drop i).take (j - i)).flatten = (parts.flatten.drop (cum parts i)).take (cum parts j - cum parts i) := by
  have e1 : (parts.drop i).take (j - i) = (parts.take j).drop i := by rw [List.drop_take]
  rw [e1, flat_drop, flat_take]
  have e2 : cum (parts.take j) i = cum parts i := by
    unfold cum
    rw [List.take_take, Nat.min_eq_left h]
  rw [e2, List.drop_take]
/-- the pieces about the touched place: a lie wholly ahead of low, from b on all lie wholly behind high -/
structure AB (parts : List (List Bool)) (low high a b : Nat) : Prop where
  ab : a ≤ b
  bn : b ≤ parts.length
  al : cum parts a ≤ low
  an : a < parts.length → low < cum parts (a + 1)
  bh : b = parts.length ∨ high ≤ cum parts b
  bi : ∀ i, a ≤ i → i < b → cum parts i < high
def amid (parts : List (List Bool)) (low high : Nat) (t : List Bool) (a b : Nat) : List Bool :=
  (((parts.drop (a - 2)).take (b + 2 - (a - 2))).flatten.take (low - cum parts (a - 2))) ++ t ++ (((parts.drop (a - 2)).take (b + 2 - (a - 2))).flatten.drop (high - cum parts (a - 2)))
def putAB (parts : List (List Bool)) (low high : Nat) (t : List Bool) (a b : Nat) : List (List Bool) := parts.take (a - 2) ++ cuts (amid parts low high t a b) ++ parts.drop (b + 2)
section
variable {parts : List (List Bool)} {low high a b : Nat} {t : List Bool}
theorem AB.hi (h : AB parts low high a b) (hh : high ≤ parts.flatten.length) : high ≤ cum parts b := by
  rcases h.bh with e | e
  · rw [e, cum_all]
    exact hh
  · exact e
theorem put_flat (h : AB parts low high a b) (hlh : low ≤ high) (hh : high ≤ parts.flatten.length) : (putAB parts low high t a b).flatten = parts.flatten.take low ++ t ++ parts.flatten.drop high := by
  unfold putAB amid
  have h1 : cum parts (a - 2) ≤ cum parts a := cum_mono parts (by omega)
  have h2 := h.al
  have h3 := h.hi hh
  have h4 : cum parts b ≤ cum parts (b + 2) := cum_mono parts (by omega)
  have h5 := cum_top parts (b + 2)
  have hab := h.ab
  rw [List.flatten_append, List.flatten_append, cuts_flat, flat_mid parts (show a - 2 ≤ b + 2 by omega), flat_take, flat_drop]
  generalize parts.flatten = r at *
  generalize cum parts (a - 2) = f at *
  generalize cum parts (b + 2) = g at *
  have e1 : List.take (low - f) (List.take (g - f) (List.drop f r)) = List.take (low - f) (List.drop f r) := by rw [List.take_take, Nat.min_eq_left (by omega)]
  have e2 : List.drop (high - f) (List.take (g - f) (List.drop f r)) = List.take (g - high) (List.drop high r) := by
    rw [List.drop_take, List.drop_drop]
    congr 1
    · omega
    · congr 1
      omega
  rw [e1, e2]
  have e3 : List.take f r ++ List.take (low - f) (List.drop f r) = List.take low r := by
    have : low = f + (low - f) := by omega
    conv => rhs; rw [this]
    rw [List.take_add]
  have e4 : List.take (g - high) (List.drop high r) ++ List.drop g r = List.drop high r := by
    have : g = high + (g - high) := by omega
    conv => lhs; rw [this]
    rw [Nat.add_sub_cancel_left, ← List.drop_drop, List.take_append_drop]
  simp only [← List.append_assoc]
  rw [e3]
  simp only [List.append_assoc]
  rw [e4]
theorem amid_len (h : AB parts low high a b) (hf : ∀ p ∈ parts, 1 ≤ p.length ∧ p.length ≤ 128) (hlh : low ≤ high) (hh : high ≤ parts.flatten.length) :
    (amid parts low high t a b).length = (low - cum parts (a - 2)) + t.length + (cum parts (b + 2) - high) := by
  unfold amid
  have h1 : cum parts (a - 2) ≤ cum parts a := cum_mono parts (by omega)
  have h2 := h.al
  have h3 := h.hi hh
  have h4 : cum parts b ≤ cum parts (b + 2) := cum_mono parts (by omega)
  have h5 := cum_top parts (b + 2)
  have hab := h.ab
  rw [flat_mid parts (show a - 2 ≤ b + 2 by omega)]
  simp only [List.length_append, List.length_take, List.length_drop]
  omega
theorem amid_le (h : AB parts low high a b) (hf : ∀ p ∈ parts, 1 ≤ p.length ∧ p.length ≤ 128) (hlh : low ≤ high) (hh : high ≤ parts.flatten.length) : (amid parts low high t a b).length ≤ 768 + t.length := by
  rw [amid_len h hf hlh hh]
  have h1 : low ≤ cum parts (a - 2) + 384 := by
    have q : low ≤ cum parts (a + 1) := by
      by_cases ha : a < parts.length
      · exact Nat.le_of_lt (h.an ha)
      · have e : a = parts.length := by have := h.ab; have := h.bn; omega
        have : cum parts parts.length ≤ cum parts (parts.length + 1) := cum_mono parts (by omega)
        rw [cum_all] at this
        rw [e]
        omega
    by_cases ha2 : 2 ≤ a
    · obtain ⟨m, rfl⟩ := Nat.exists_eq_add_of_le ha2
      have e : 2 + m - 2 = m := by omega
      rw [e]
      have s1 : cum parts (m + 1) ≤ cum parts m + 128 := cum_step hf m
      have s2 : cum parts (m + 2) ≤ cum parts (m + 1) + 128 := cum_step hf (m + 1)
      have s3 : cum parts (m + 3) ≤ cum parts (m + 2) + 128 := cum_step hf (m + 2)
      have e2 : 2 + m + 1 = m + 3 := by omega
      rw [e2] at q
      omega
    · have s1 := cum_step hf a
      have : cum parts a ≤ 128 + cum parts (a - 2) := by
        have e0 : a - 2 = 0 := by omega
        rw [e0]
        by_cases a1 : a = 0
        · rw [a1]
          omega
        · have e1 : a = 1 := by omega
          have s0 : cum parts 1 ≤ cum parts 0 + 128 := cum_step hf 0
          rw [e1]
          omega
      omega
  have h2 : cum parts (b + 2) ≤ high + 384 := by
    have s1 : cum parts (b + 1) ≤ cum parts b + 128 := cum_step hf b
    have s2 : cum parts (b + 2) ≤ cum parts (b + 1) + 128 := cum_step hf (b + 1)
    have : cum parts b ≤ high + 128 := by
      by_cases hb : a < b
      · have := h.bi (b - 1) (by omega) (by omega)
        have s := cum_step hf (b - 1)
        have e : b - 1 + 1 = b := by omega
        rw [e] at s
        omega
      · have : a = b := by have := h.ab; omega
        have := h.al
        subst b
        omega
    omega
  omega
theorem put_form (h : AB parts low high a b) (hF : Form parts) (hlh : low ≤ high) (hh : high ≤ parts.flatten.length) : Form (putAB parts low high t a b) := by
  have hl := amid_len (t := t) h hF.sz hlh hh
  have hbn := h.bn
  have hab := h.ab
  have left : a - 2 ≠ 0 → 65 ≤ (amid parts low high t a b).length := fun h0 => by
    obtain ⟨m, rfl⟩ := Nat.exists_eq_add_of_le (show 2 ≤ a by omega)
    have l1 : m < parts.length := by omega
    have l2 : m + 1 < parts.length := by omega
    have q := hF.nb m _ _ (List.getElem?_eq_getElem l1) (List.getElem?_eq_getElem l2)
    have s1 := cum_succ (List.getElem?_eq_getElem l1)
    have s2 := cum_succ (List.getElem?_eq_getElem l2)
    have e : 2 + m - 2 = m := by omega
    have hal := h.al
    have e2 : 2 + m = m + 1 + 1 := by omega
    rw [e2] at hal
    rw [e] at hl
    omega
  have right : b + 2 < parts.length → 65 ≤ (amid parts low high t a b).length := fun h0 => by
    have l1 : b < parts.length := by omega
    have l2 : b + 1 < parts.length := by omega
    have q := hF.nb b _ _ (List.getElem?_eq_getElem l1) (List.getElem?_eq_getElem l2)
    have s1 := cum_succ (List.getElem?_eq_getElem l1)
    have s2 := cum_succ (List.getElem?_eq_getElem l2)
    have h3 := h.hi hh
    have e2 : b + 2 = b + 1 + 1 := by omega
    rw [e2] at hl
    omega
  have hC := cuts_form (amid parts low high t a b)
  refine ⟨fun p hp => ?_, fun i p q hp hq => ?_⟩
  · unfold putAB at hp
    rcases List.mem_append.mp hp with hp | hp
    · rcases List.mem_append.mp hp with hp | hp
      · exact hF.sz p (List.mem_of_mem_take hp)
      · exact hC.sz p hp
    · exact hF.sz p (List.mem_of_mem_drop hp)
  · unfold putAB at hp hq
    have lF : (parts.take (a - 2)).length = a - 2 := by rw [List.length_take]; omega
    have lp : 1 ≤ p.length := by
      rcases List.mem_append.mp (List.mem_of_getElem? hp) with z | z
      · rcases List.mem_append.mp z with z | z
        · exact (hF.sz p (List.mem_of_mem_take z)).1
        · exact (hC.sz p z).1
      · exact (hF.sz p (List.mem_of_mem_drop z)).1
    have lq : 1 ≤ q.length := by
      rcases List.mem_append.mp (List.mem_of_getElem? hq) with z | z
      · rcases List.mem_append.mp z with z | z
        · exact (hF.sz q (List.mem_of_mem_take z)).1
        · exact (hC.sz q z).1
      · exact (hF.sz q (List.mem_of_mem_drop z)).1
    have lCp : (cuts (amid parts low high t a b)).length = ((amid parts low high t a b).length + 127) / 128 := cuts_len _
    by_cases c1 : i + 1 < a - 2
    · rw [List.append_assoc, List.getElem?_append_left (by omega), List.getElem?_take, if_pos (by omega)] at hp
      rw [List.append_assoc, List.getElem?_append_left (by omega), List.getElem?_take, if_pos (by omega)] at hq
      exact hF.nb i p q hp hq
    · by_cases c2 : i < a - 2
      · -- q is the first of the cut ones
        have h65 := left (by omega)
        rw [List.append_assoc, List.getElem?_append_right (by omega), List.getElem?_append_left (by omega)] at hq
        have := cuts_big h65 q (List.mem_of_getElem? hq)
        omega
      · by_cases c3 : i + 1 - (a - 2) < (cuts (amid parts low high t a b)).length
        · rw [List.append_assoc, List.getElem?_append_right (by omega), List.getElem?_append_left (by omega)] at hp hq
          rw [lF] at hp hq
          have e : i + 1 - (a - 2) = i - (a - 2) + 1 := by omega
          rw [e] at hq
          exact hC.nb _ p q hp hq
        · by_cases c4 : i - (a - 2) < (cuts (amid parts low high t a b)).length
          · have h65 : 65 ≤ (amid parts low high t a b).length := right (by
              have := (List.getElem?_eq_some_iff.mp hq).1
              simp only [List.length_append, List.length_drop, lF] at this
              omega)
            rw [List.append_assoc, List.getElem?_append_right (by omega), List.getElem?_append_left (by omega)] at hp
            have := cuts_big h65 p (List.mem_of_getElem? hp)
            omega
          · rw [List.getElem?_append_right (by rw [List.length_append]; omega), List.getElem?_drop] at hp hq
            simp only [List.length_append, lF] at hp hq
            have e : b + 2 + (i + 1 - (a - 2 + (cuts (amid parts low high t a b)).length)) = b + 2 + (i - (a - 2 + (cuts (amid parts low high t a b)).length)) + 1 := by omega
            rw [e] at hq
            exact hF.nb _ p q hp hq
end

section
/-- one step of a reading; as many as go -/
local macro_rules | `(tactic| walk_at "st") => `(tactic| first
  | with_reducible refine go_seq ?_ | with_reducible refine go_asg ?_ | with_reducible refine go_gname ?_ | ((with_reducible refine go_var (v := ?vv) ?hv ?_); (case hv => rfl)) | with_reducible refine go_c ?_ | with_reducible refine go_op ?_
  | with_reducible refine go_add ?_ | with_reducible refine go_sub ?_ | with_reducible refine go_cb ?_ | with_reducible refine go_cons ?_ | with_reducible refine go_nil ?_ | with_reducible refine go_test ?_ | with_reducible refine go_isB ?_
  | with_reducible refine go_if ?_ | with_reducible refine go_lt ?_ | with_reducible refine go_le ?_ | with_reducible refine go_gt ?_ | with_reducible refine go_ge ?_ | with_reducible refine go_eqI ?_ | with_reducible refine go_neI ?_
  | with_reducible refine go_eq1 ?_ | with_reducible refine go_un ?_ | with_reducible refine go_neg ?_ | with_reducible refine go_tand ?_ | with_reducible refine go_tor ?_ | with_reducible refine go_tnot ?_ | with_reducible refine ifB_t ?_ | with_reducible refine ifB_f ?_ | with_reducible refine ifB_nf ?_ | with_reducible refine ifB_nt ?_
  | with_reducible refine go_andV ?_ | with_reducible refine go_orV ?_ | with_reducible refine go_notV ?_ | with_reducible refine go_chain ?_ | with_reducible refine go_tB ?_ | with_reducible refine go_nilt ?_
  | with_reducible refine go_ret ?_ | with_reducible refine go_retN ?_ | with_reducible refine go_next ?_ | with_reducible refine go_drop ?_ | with_reducible refine go_brk ?_ | with_reducible refine go_ct ?_
  | ((with_reducible refine go_aug (n := ?nn) ?ha ?_); (case ha => rfl)) | with_reducible refine go_augi ?_ | with_reducible refine go_lst ?_ | with_reducible refine go_tup ?_ | with_reducible refine go_pick ?_ | with_reducible refine go_picked ?_
  | with_reducible refine go_sl ?_ | with_reducible refine go_nopart ?_ | with_reducible refine go_part ?_ | with_reducible refine go_parti ?_ | with_reducible refine go_isN ?_ | with_reducible refine go_notN ?_ | with_reducible refine go_inS ?_ | with_reducible refine go_notInS ?_
  | with_reducible refine go_max2 ?_ | with_reducible refine go_min2 ?_ | with_reducible refine go_intB ?_ | with_reducible refine go_abs ?_ | with_reducible refine go_cl ?_ | with_reducible refine go_mt ?_ | with_reducible refine go_fld ?_
  | with_reducible refine go_bm ?_ | with_reducible refine go_bm0 ?_ | with_reducible refine ty_str ?_ | ((with_reducible refine ty_lst (xs := ?xx) ?ht ?_); (case ht => assumption))
  | with_reducible refine go_for ?_ | with_reducible refine go_iStr ?_ | with_reducible refine go_strK ?_ | with_reducible refine go_iList ?_ | with_reducible refine go_iEnS ?_ | with_reducible refine go_enSK ?_ | with_reducible refine go_iEnL ?_
  | with_reducible refine go_iR1 ?_ | with_reducible refine go_iR2 ?_ | with_reducible refine go_iR3 ?_ | with_reducible refine go_lc ?_
  | ((with_reducible refine go_div ?hc ?_); (case hc => decide)) | ((with_reducible refine go_mod ?hc ?_); (case hc => decide)) | ((with_reducible refine go_shr ?hc ?_); (case hc => decide)) | with_reducible refine go_and ?_ | with_reducible refine go_or ?_
  | ((with_reducible refine go_lenS ?hz ?_); (case hz => assumption)) | ((with_reducible refine go_lenL (xs := ?xx) ?hz ?_); (case hz => assumption)) | with_reducible refine go_sfld ?_ | with_reducible refine go_mk ?_ | with_reducible refine go_isiII ?_ | with_reducible refine go_isiIB ?_ | with_reducible refine go_isiSS ?_ | with_reducible refine go_gcons ?_ | with_reducible refine go_gnil ?_ | with_reducible refine go_and ?_ | with_reducible refine go_intS ?_ | with_reducible refine go_slT ?_ | with_reducible refine go_iTup ?_ | ((with_reducible refine go_mul ?hc ?_); (case hc => exact .inl ⟨by decide, by decide⟩)))
local macro_rules | `(tactic| walk_at "rd") => `(tactic| repeat walk_at "st")
local macro_rules | `(tactic| walk_at "go") => `(tactic| dsimp only [cxOf, Cx.nox, Cx.wish, L2.start, List.map, List.length_cons, List.length_nil, List.replicate, Nat.reduceAdd, Nat.reduceSub, List.cons_append, List.nil_append])
local macro_rules | `(tactic| walk_at "sz") => `(tactic| (refine Nat.le_trans (m := 100000) ?_ (by decide); first | (simp only [List.length_cons, List.length_nil, List.length_append, List.length_map]; omega) | omega))
/-- two lists of slots are the same -/
local macro_rules | `(tactic| walk_at "se") => `(tactic| ((try dsimp only [List.set]); (repeat' (first | rfl | refine congr (congrArg List.cons ?_) ?_ | refine congrArg (fun z => some (V.int z)) ?_)); (try omega)))
/-! ## pieces.py -/
def lst : List Bool → Int
  | [] => 0
  | b :: t => bv b + min 0 (lst t)
theorem lst_snoc : ∀ (l : List Bool) (b : Bool), l ≠ [] → lst (l ++ [b]) = min (lst l) (ht (l ++ [b]))
  | [], _, h => absurd rfl h
  | [x], b, _ => by
    simp only [List.cons_append, List.nil_append, lst, ht]
    omega
  | x :: y :: l, b, _ => by
    have ih := lst_snoc (y :: l) b (by simp)
    have e : (x :: y :: l) ++ [b] = x :: ((y :: l) ++ [b]) := rfl
    rw [e]
    show bv x + min 0 (lst ((y :: l) ++ [b])) = min (bv x + min 0 (lst (y :: l))) (bv x + ht ((y :: l) ++ [b]))
    rw [ih]
    omega
theorem lst_one (b : Bool) : lst [b] = bv b := by
  cases b <;> decide
def sumsV (l : List Bool) : List V := [.int (ones l), .int (ht l), .int (lst l)]
def sp_sums_of (_ : PySem.W.Frag) : Sp := mkSp (α := List Bool) (fun l => [.str (S l)]) (fun _ _ => True) (fun l H v H' => ∃ t, v = .ref t ∧ H t = none ∧ Same H H' ∧ H' t = some (.tup (sumsV l)))
theorem sc_sums_of : FnScope ["text", "knots", "whole", "least", "place", "sign"] ["text"] (defScope s_sums_of) := ⟨rfl, rfl, rfl, by decide +kernel, rfl, by decide +kernel, by decide +kernel⟩
theorem ok_sums_of {P : Program} {w : World} {K : PySem.W.Frag} {mg : Str → Option Value} {base : Heap} (T : Top K mg)  : Rdy P w K mg base "sums_of" 1 ["text"] (sp_sums_of K) := by
  refine rdy T.g_sums_of T.f_sums_of sc_sums_of (fun _ => rfl) (fun _ _ _ _ _ _ us hl => match us, hl with | [_], _ => rfl) fun cdv A outer s H a Q E hr hp hQ => ⟨_, (pss_cons (ps_set (i := 1) sc_sums_of.nd rfl (Or.inl rfl) pe_int)
      (pss_cons (ps_set (i := 2) sc_sums_of.nd rfl (Or.inl rfl) pe_int)
      (pss_cons (ps_set (i := 3) sc_sums_of.nd rfl (Or.inl rfl) pe_int)
      (pss_cons (ps_for PassesOwn.never rfl (pi_enumS rfl T.b_enumerate (pa_cons (pv 0) pa_nil)) (pg_tup rfl (pgs_cons (pg_name (i := 4) sc_sums_of.nd rfl (Or.inl rfl)) (pgs_cons (pg_name (i := 5) sc_sums_of.nd rfl (Or.inl rfl)) pgs_nil))) (pss_cons (ps_if (pt_cmpR (r := rEq) op_eq (pv 5) pe_str (nomark _)) (pss_cons (ps_aug (i := 1) sc_sums_of.nd rfl (Or.inl rfl) pe_int ip_add)
      (pss_one (ps_aug (i := 2) sc_sums_of.nd rfl (Or.inl rfl) pe_int ip_add))) (pss_one (ps_aug (i := 2) sc_sums_of.nd rfl (Or.inl rfl) pe_int ip_sub)))
      (pss_one (ps_if (PW.pt (pw_or (pt_cmpR (r := rEq) op_eq (pv 4) pe_int (nomark _)) (pw_or1 (pt_cmpR (r := rLt) op_lt (pv 2) (pv 3) (nomark _))))) (pss_one (ps_set (i := 3) sc_sums_of.nd rfl (Or.inl rfl) (pv 2))) pss_nil))))
      (pss_one (ps_ret (pe_tup (pa_cons (pv 1) (pa_cons (pv 2) (pa_cons (pv 3) pa_nil)))))))))), ?_⟩
  walk_at "go"
  walk_at "rd"
  refine loop_enS (l := a) (fun pre σ' H' => Same H H' ∧ ∃ x y, σ' = [some (.str (S a)), some (.int (ones pre)), some (.int (ht pre)), some (.int (lst pre)), x, y]) ?_ ?_ ?_
  · exact ⟨Same.refl H, _, _, rfl⟩
  · rintro pre b post σ' H' H2 e ⟨s1, x, y, rfl⟩ s2
    have e1 : ones (pre ++ [b]) = ones pre + (if b then 1 else 0) := by
      rw [ones_app]
      cases b <;> rfl
    have e2 : ht (pre ++ [b]) = ht pre + (if b then 1 else -1) := by
      rw [ht_app]
      cases b <;> rfl
    have e3 : lst (pre ++ [b]) = if pre.length = 0 ∨ ht (pre ++ [b]) < lst pre then ht (pre ++ [b]) else lst pre := by
      by_cases h0 : pre = []
      · subst h0
        rw [if_pos (.inl rfl)]
        cases b <;> decide
      · have h1 : pre.length ≠ 0 := fun z => h0 (List.length_eq_zero_iff.mp z)
        rw [lst_snoc pre b h0]
        by_cases h2 : ht (pre ++ [b]) < lst pre
        · rw [if_pos (.inr h2)]
          omega
        · rw [if_neg (fun z => z.elim h1 h2)]
          omega
    walk_at "rd"
    refine ifB_of (fun hb => ?_) (fun hb => ?_)
    · subst hb
      rw [if_pos rfl] at e1 e2
      walk_at "rd"
      refine ifB_dec (fun h0 => ?_) (fun h0 => ?_)
      · walk_at "rd"
        rw [if_pos (.inl (by omega))] at e3
        exact ⟨s1.trans s2, _, _, by rw [e1, e3, e2]; walk_at "se"⟩
      · walk_at "rd"
        refine ifB_dec (fun h1 => ?_) (fun h1 => ?_)
        · walk_at "rd"
          rw [if_pos (.inr (by omega))] at e3
          exact ⟨s1.trans s2, _, _, by rw [e1, e3, e2]; walk_at "se"⟩
        · walk_at "rd"
          rw [if_neg (by omega)] at e3
          exact ⟨s1.trans s2, _, _, by rw [e1, e3, e2]; walk_at "se"⟩
    · subst hb
      rw [if_neg (by decide)] at e1 e2
      walk_at "rd"
      refine ifB_dec (fun h0 => ?_) (fun h0 => ?_)
      · walk_at "rd"
        rw [if_pos (.inl (by omega))] at e3
        exact ⟨s1.trans s2, _, _, by rw [e1, e3, e2]; walk_at "se"⟩
      · walk_at "rd"
        refine ifB_dec (fun h1 => ?_) (fun h1 => ?_)
        · walk_at "rd"
          rw [if_pos (.inr (by omega))] at e3
          exact ⟨s1.trans s2, _, _, by rw [e1, e3, e2]; walk_at "se"⟩
        · walk_at "rd"
          rw [if_neg (by omega)] at e3
          exact ⟨s1.trans s2, _, _, by rw [e1, e3, e2]; walk_at "se"⟩
  · rintro σ' H' ⟨s1, x, y, rfl⟩
    walk_at "rd"
    refine go_newT (by walk_at "sz") fun t H2 n2 s2 h2 => ?_
    exact hQ _ _ ⟨t, rfl, s1.free n2, s1.trans s2, h2⟩

end
/-! ## slices by whole numbers from 0 on; posts -/
theorem sl_nat {α : Type} (w : List α) (lo hi : Nat) : (w.drop (HT.sIx w.length 0 (some (lo : Int)))).take (HT.sIx w.length w.length (some (hi : Int)) - HT.sIx w.length 0 (some (lo : Int))) = (w.drop lo).take (hi - lo) := by
  rw [HT.sIx_nat, HT.sIx_nat]
  by_cases h : lo ≤ w.length
  · rw [Nat.min_eq_left h]
    by_cases h2 : hi ≤ w.length
    · rw [Nat.min_eq_left h2]
    · rw [Nat.min_eq_right (by omega), List.take_of_length_le (by rw [List.length_drop]; omega), List.take_of_length_le (by rw [List.length_drop]; omega)]
  · have e1 : w.drop (min lo w.length) = [] := List.drop_of_length_le (by omega)
    have e2 : w.drop lo = [] := List.drop_of_length_le (by omega)
    rw [e1, e2]
    simp
theorem sl_to {α : Type} (w : List α) (hi : Nat) : (w.drop (HT.sIx w.length 0 none)).take (HT.sIx w.length w.length (some (hi : Int)) - HT.sIx w.length 0 none) = w.take hi := by
  rw [HT.sIx_nat, HT.sIx_none, List.drop_zero, Nat.sub_zero]
  by_cases h2 : hi ≤ w.length
  · rw [Nat.min_eq_left h2]
  · rw [Nat.min_eq_right (by omega), List.take_length, List.take_of_length_le (by omega)]
theorem sl_from {α : Type} (w : List α) (lo : Nat) : (w.drop (HT.sIx w.length 0 (some (lo : Int)))).take (HT.sIx w.length w.length none - HT.sIx w.length 0 (some (lo : Int))) = w.drop lo := by
  rw [HT.sIx_nat, HT.sIx_none]
  by_cases h : lo ≤ w.length
  · rw [Nat.min_eq_left h, List.take_of_length_le (by rw [List.length_drop]; omega)]
  · rw [Nat.min_eq_right (by omega), List.drop_length, List.drop_of_length_le (by omega)]
    simp
theorem cutV_nat (w : List V) (lo hi : Nat) : cutV w (some (lo : Int)) (some (hi : Int)) = (w.drop lo).take (hi - lo) := sl_nat w lo hi
theorem cutV_to (w : List V) (hi : Nat) : cutV w none (some (hi : Int)) = w.take hi := sl_to w hi
theorem cutV_from (w : List V) (lo : Nat) : cutV w (some (lo : Int)) none = w.drop lo := sl_from w lo
/-- xs[:-1] -/
theorem cutV_init (w : List V) : cutV w none (some (-1)) = w.dropLast := by
  unfold cutV
  rw [HT.sIx_none, List.drop_zero, Nat.sub_zero, List.dropLast_eq_take]
  congr 1
  unfold HT.sIx
  simp
  omega
abbrev vr (l : List Bool) : V := .str (S l)
abbrev LI (ns : List Int) : HO := .lst (ns.map V.int)
abbrev LR (ps : List (List Bool)) : HO := .lst (ps.map vr)
/-- a new object that holds o -/
def NewO (o : HO) (H : Hp) (v : V) (H' : Hp) : Prop := ∃ p, v = .ref p ∧ H p = none ∧ Same H H' ∧ H' p = some o
theorem at_i {α : Type} {xs : List α} {z : Int} (j : Nat) {v : α} (e : z = (j : Int)) (h : xs[j]? = some v) : atI xs z = some v := by
  rw [e]
  exact atI_nat h
theorem map_at {α β : Type} {f : α → β} {xs : List α} {j : Nat} {v : α} (h : xs[j]? = some v) : (xs.map f)[j]? = some (f v) := by
  rw [List.getElem?_map, h]
  rfl
theorem last_i {α : Type} {xs : List α} {v : α} (h : xs.getLast? = some v) : atI xs (-1) = some v := by
  have hne : xs ≠ [] := fun z => by subst z; simp at h
  obtain ⟨init, last, rfl⟩ : ∃ init last, xs = init ++ [last] := ⟨xs.dropLast, xs.getLast hne, (List.dropLast_concat_getLast hne).symm⟩
  rw [List.getLast?_concat] at h
  rw [h.symm.trans (show some last = some last from rfl) |> Option.some.inj]
  exact atI_last init last

section
/-- one step of a reading; as many as go -/
local macro_rules | `(tactic| walk_at "st") => `(tactic| first
  | with_reducible refine go_seq ?_ | with_reducible refine go_asg ?_ | with_reducible refine go_gname ?_ | ((with_reducible refine go_var (v := ?vv) ?hv ?_); (case hv => rfl)) | with_reducible refine go_c ?_ | with_reducible refine go_op ?_
  | with_reducible refine go_add ?_ | with_reducible refine go_sub ?_ | with_reducible refine go_cb ?_ | with_reducible refine go_cons ?_ | with_reducible refine go_nil ?_ | with_reducible refine go_test ?_ | with_reducible refine go_isB ?_
  | with_reducible refine go_if ?_ | with_reducible refine go_lt ?_ | with_reducible refine go_le ?_ | with_reducible refine go_gt ?_ | with_reducible refine go_ge ?_ | with_reducible refine go_eqI ?_ | with_reducible refine go_neI ?_
  | with_reducible refine go_eq1 ?_ | with_reducible refine go_un ?_ | with_reducible refine go_neg ?_ | with_reducible refine go_tand ?_ | with_reducible refine go_tor ?_ | with_reducible refine go_tnot ?_ | with_reducible refine ifB_t ?_ | with_reducible refine ifB_f ?_ | with_reducible refine ifB_nf ?_ | with_reducible refine ifB_nt ?_
  | with_reducible refine go_andV ?_ | with_reducible refine go_orV ?_ | with_reducible refine go_notV ?_ | with_reducible refine go_chain ?_ | with_reducible refine go_tB ?_ | with_reducible refine go_nilt ?_
  | with_reducible refine go_ret ?_ | with_reducible refine go_retN ?_ | with_reducible refine go_next ?_ | with_reducible refine go_drop ?_ | with_reducible refine go_brk ?_ | with_reducible refine go_ct ?_
  | ((with_reducible refine go_aug (n := ?nn) ?ha ?_); (case ha => rfl)) | with_reducible refine go_augi ?_ | with_reducible refine go_lst ?_ | with_reducible refine go_tup ?_ | with_reducible refine go_pick ?_ | with_reducible refine go_picked ?_
  | with_reducible refine go_sl ?_ | with_reducible refine go_nopart ?_ | with_reducible refine go_part ?_ | with_reducible refine go_parti ?_ | with_reducible refine go_isN ?_ | with_reducible refine go_notN ?_ | with_reducible refine go_inS ?_ | with_reducible refine go_notInS ?_
  | with_reducible refine go_max2 ?_ | with_reducible refine go_min2 ?_ | with_reducible refine go_intB ?_ | with_reducible refine go_abs ?_ | with_reducible refine go_cl ?_ | with_reducible refine go_mt ?_ | with_reducible refine go_fld ?_
  | with_reducible refine go_bm ?_ | with_reducible refine go_bm0 ?_ | with_reducible refine ty_str ?_ | ((with_reducible refine ty_lst (xs := ?xx) ?ht ?_); (case ht => assumption))
  | with_reducible refine go_for ?_ | with_reducible refine go_iStr ?_ | with_reducible refine go_strK ?_ | with_reducible refine go_iList ?_ | with_reducible refine go_iEnS ?_ | with_reducible refine go_enSK ?_ | with_reducible refine go_iEnL ?_
  | with_reducible refine go_iR1 ?_ | with_reducible refine go_iR2 ?_ | with_reducible refine go_iR3 ?_ | with_reducible refine go_lc ?_
  | ((with_reducible refine go_div ?hc ?_); (case hc => decide)) | ((with_reducible refine go_mod ?hc ?_); (case hc => decide)) | ((with_reducible refine go_shr ?hc ?_); (case hc => decide)) | with_reducible refine go_and ?_ | with_reducible refine go_or ?_
  | ((with_reducible refine go_lenS ?hz ?_); (case hz => assumption)) | ((with_reducible refine go_lenL (xs := ?xx) ?hz ?_); (case hz => assumption)) | with_reducible refine go_sfld ?_ | with_reducible refine go_mk ?_ | with_reducible refine go_isiII ?_ | with_reducible refine go_isiIB ?_ | with_reducible refine go_isiSS ?_ | with_reducible refine go_gcons ?_ | with_reducible refine go_gnil ?_ | with_reducible refine go_and ?_ | with_reducible refine go_intS ?_ | with_reducible refine go_slT ?_ | with_reducible refine go_iTup ?_ | ((with_reducible refine go_mul ?hc ?_); (case hc => exact .inl ⟨by decide, by decide⟩)))
local macro_rules | `(tactic| walk_at "rd") => `(tactic| repeat walk_at "st")
local macro_rules | `(tactic| walk_at "go") => `(tactic| dsimp only [cxOf, Cx.nox, Cx.wish, L2.start, List.map, List.length_cons, List.length_nil, List.replicate, Nat.reduceAdd, Nat.reduceSub, List.cons_append, List.nil_append])
local macro_rules | `(tactic| walk_at "sz") => `(tactic| (refine Nat.le_trans (m := 100000) ?_ (by decide); first | (simp only [List.length_cons, List.length_nil, List.length_append, List.length_map]; omega) | omega))
/-- two lists of slots are the same -/
local macro_rules | `(tactic| walk_at "se") => `(tactic| ((try dsimp only [List.set]); (repeat' (first | rfl | refine congr (congrArg List.cons ?_) ?_ | refine congrArg (fun z => some (V.int z)) ?_)); (try omega)))
theorem tops_app : ∀ (a b : List Bool) (h f : Int), tops h f (a ++ b) = tops h f a ++ tops (h + ht a) (f + ones a) b
  | [], b, h, f => by simp [tops, ht, ones]
  | true :: a, b, h, f => by
    simp only [List.cons_append, tops, ht, ones, bv, if_true]
    rw [tops_app a b, List.append_assoc]
    congr 3
    · omega
    · omega
  | false :: a, b, h, f => by
    simp only [List.cons_append, tops, ht, ones, bv]
    rw [tops_app a b]
    congr 2
    simp
    omega
def sp_tops_in (_ : PySem.W.Frag) : Sp := mkSp (α := List Bool × Int) (fun a => [.str (S a.1), .int a.2]) (fun a _ => a.1.length ≤ 100000) (fun a H v H' => NewO (LI (tops 0 a.2 a.1)) H v H')
theorem tops_len : ∀ (l : List Bool) (h f : Int), (tops h f l).length ≤ l.length
  | [], _, _ => Nat.le_refl _
  | true :: l, h, f => by
    have := tops_len l (h + 1) (f + 1)
    simp only [tops, List.length_append, List.length_cons]
    split <;> simp <;> omega
  | false :: l, h, f => by
    have := tops_len l (h - 1) f
    simp only [tops, List.length_cons]
    omega
theorem sc_tops_in : FnScope ["text", "first", "found", "height", "sign"] ["text", "first"] (defScope s_tops_in) := ⟨rfl, rfl, rfl, by decide +kernel, rfl, by decide +kernel, by decide +kernel⟩
theorem ok_tops_in {P : Program} {w : World} {K : PySem.W.Frag} {mg : Str → Option Value} {base : Heap} (T : Top K mg)  : Rdy P w K mg base "tops_in" 1 ["text", "first"] (sp_tops_in K) := by
  refine rdy T.g_tops_in T.f_tops_in sc_tops_in (fun _ => rfl) (fun _ _ _ _ _ _ us hl => match us, hl with | [_, _], _ => rfl) fun cdv A outer s H a Q E hr hp hQ => ⟨_, (pss_cons (ps_set (i := 2) sc_tops_in.nd rfl (Or.inl rfl) (pe_lst pa_nil))
      (pss_cons (ps_set (i := 3) sc_tops_in.nd rfl (Or.inl rfl) pe_int)
      (pss_cons (ps_for PassesOwn.never rfl (pi_str (pv 0)) (pg_name (i := 4) sc_tops_in.nd rfl (Or.inl rfl)) (pss_one (ps_if (pt_cmpR (r := rEq) op_eq (pv 4) pe_str (nomark _)) (pss_cons (ps_if (pt_cmpR (r := rEq) op_eq (pv 3) pe_int (nomark _)) (pss_one (ps_expr (pe_bm PySem.F.plainAttrs_list PySem.F.slot_list_append PySem.F.type_list_append mt_append (pv 2) (pa_cons (pv 1) pa_nil)))) pss_nil)
      (pss_cons (ps_aug (i := 1) sc_tops_in.nd rfl (Or.inl rfl) pe_int ip_add)
      (pss_one (ps_aug (i := 3) sc_tops_in.nd rfl (Or.inl rfl) pe_int ip_add)))) (pss_one (ps_aug (i := 3) sc_tops_in.nd rfl (Or.inl rfl) pe_int ip_sub)))))
      (pss_one (ps_ret (pv 2)))))), ?_⟩
  obtain ⟨l, f⟩ := a
  replace hp : l.length ≤ 100000 := hp
  walk_at "go"
  walk_at "rd"
  refine go_newL (by walk_at "sz") fun p H1 n1 s1 h1 => ?_
  walk_at "rd"
  refine loop_str (l := l) (fun pre σ' H' => Same H H' ∧ H' p = some (LI (tops 0 f pre)) ∧ ∃ x, σ' = [some (.str (S l)), some (.int (f + ones pre)), some (.ref p), some (.int (ht pre)), x]) ?_ ?_ ?_
  · exact ⟨s1, h1, none, by simp [ones, ht]⟩
  · rintro pre b post σ' H' e ⟨s2, h2, x, rfl⟩
    have e0 := tops_app pre [b] 0 f
    have e1 : ones (pre ++ [b]) = ones pre + (if b then 1 else 0) := by
      rw [ones_app]
      cases b <;> rfl
    have e2 : ht (pre ++ [b]) = ht pre + (if b then 1 else -1) := by
      rw [ht_app]
      cases b <;> rfl
    have hlen : (tops 0 f pre).length ≤ 100000 := by
      have := tops_len pre 0 f
      have : pre.length ≤ l.length := by rw [e]; simp
      omega
    walk_at "rd"
    refine ifB_of (fun hb => ?_) (fun hb => ?_)
    · subst hb
      rw [if_pos rfl] at e1 e2
      walk_at "rd"
      refine ifB_dec (fun h0 => ?_) (fun h0 => ?_)
      · walk_at "rd"
        refine go_append h2 (by rw [List.length_map]; exact Nat.lt_of_le_of_lt hlen (by decide)) ?_
        walk_at "rd"
        refine ⟨same_mut s2 n1, ?_, _, by rw [e1, e2]; walk_at "se"⟩
        rw [upd_same, e0, h0]
        simp [tops]
      · walk_at "rd"
        refine ⟨s2, ?_, _, by rw [e1, e2]; walk_at "se"⟩
        rw [e0, h2]
        simp [tops, h0]
    · subst hb
      rw [if_neg (by decide)] at e1 e2
      walk_at "rd"
      refine ⟨s2, ?_, _, by rw [e1, e2]; walk_at "se"⟩
      rw [e0, h2]
      simp [tops]
  · rintro σ' H' ⟨s2, h2, x, rfl⟩
    walk_at "rd"
    exact hQ _ _ ⟨p, rfl, n1, s2, h2⟩
def sp_cut_evenly (_ : PySem.W.Frag) : Sp := mkSp (α := List Bool) (fun l => [.str (S l)]) (fun l _ => l.length ≤ 100000) (fun l H v H' => NewO (LR (cuts l)) H v H')
theorem sc_cut_evenly : FnScope ["text", "many", "found", "k"] ["text"] (defScope s_cut_evenly) := ⟨rfl, rfl, rfl, by decide +kernel, rfl, by decide +kernel, by decide +kernel⟩
theorem ok_cut_evenly {P : Program} {w : World} {K : PySem.W.Frag} {mg : Str → Option Value} {base : Heap} (T : Top K mg)  : Rdy P w K mg base "cut_evenly" 1 ["text"] (sp_cut_evenly K) := by
  obtain ⟨t_MOST_pieces, c_MOST_pieces⟩ := T.i_MOST_pieces
  refine rdy T.g_cut_evenly T.f_cut_evenly sc_cut_evenly (fun _ => rfl) (fun _ _ _ _ _ _ us hl => match us, hl with | [_], _ => rfl) fun cdv A outer s H a Q E hr hp hQ => ⟨_, (pss_cons (ps_set (i := 1) sc_cut_evenly.nd rfl (Or.inl rfl) (pe_op (r := rDivI) op_fdiv (pe_op (r := rSubI) op_sub (pe_op (r := rAddI) op_add (pe_callB (r := cLenS) call_len_str rfl T.b_len (by decide +kernel) (pa_cons (pv 0) pa_nil)) (pe_glob (v := .int 128) rfl c_MOST_pieces ⟨_, rfl⟩)) pe_int) (pe_glob (v := .int 128) rfl c_MOST_pieces ⟨_, rfl⟩)))
      (pss_cons (ps_set (i := 2) sc_cut_evenly.nd rfl (Or.inl rfl) (pe_lst pa_nil))
      (pss_cons (ps_for PassesOwn.never rfl (pi_range1 rfl T.b_range (pa_cons (pv 1) pa_nil)) (pg_name (i := 3) sc_cut_evenly.nd rfl (Or.inl rfl)) (pss_one (ps_expr (pe_bm PySem.F.plainAttrs_list PySem.F.slot_list_append PySem.F.type_list_append mt_append (pv 2) (pa_cons (pe_slice sl_str (pv 0) (po_some (pe_op (r := rDivI) op_fdiv (pe_op (r := rMulI) op_mul (pe_callB (r := cLenS) call_len_str rfl T.b_len (by decide +kernel) (pa_cons (pv 0) pa_nil)) (pv 3)) (pv 1))) (po_some (pe_op (r := rDivI) op_fdiv (pe_op (r := rMulI) op_mul (pe_callB (r := cLenS) call_len_str rfl T.b_len (by decide +kernel) (pa_cons (pv 0) pa_nil)) (pe_op (r := rAddI) op_add (pv 3) pe_int)) (pv 1)))) pa_nil)))))
      (pss_one (ps_ret (pv 2)))))), ?_⟩
  replace hp : a.length ≤ 100000 := hp
  have hz : a.length ≤ sizeLine := Nat.le_trans hp (by decide)
  walk_at "go"
  walk_at "rd"
  have em : ((a.length : Int) + 128 - 1) / 128 = ((a.length + 127) / 128 : Nat) := by omega
  rw [em]
  refine go_newL (by walk_at "sz") fun p H1 n1 s1 h1 => ?_
  walk_at "rd"
  refine go_rng1 (by omega) ?_
  refine loop_rng (fun i σ' H' => Same H H' ∧ H' p = some (LR ((List.range i).map fun k => (a.drop (a.length * k / ((a.length + 127) / 128))).take (a.length * (k + 1) / ((a.length + 127) / 128) - a.length * k / ((a.length + 127) / 128)))) ∧
    ∃ x, σ' = [some (.str (S a)), some (.int ((a.length + 127) / 128 : Nat)), some (.ref p), x]) ?_ ?_ ?_
  · exact ⟨s1, h1, _, rfl⟩
  · rintro i σ' H' hi ⟨s2, h2, x, rfl⟩
    rw [Int.zero_add]
    have ei : (i : Int) + 1 = ((i + 1 : Nat) : Int) := by omega
    walk_at "rd"
    refine go_mul (.inl ⟨by omega, by omega⟩) ?_
    walk_at "rd"
    refine go_div (by omega) ?_
    walk_at "rd"
    refine go_mul (.inl ⟨by omega, by omega⟩) ?_
    walk_at "rd"
    refine go_div (by omega) ?_
    walk_at "rd"
    rw [ei, ← Int.natCast_mul, ← Int.natCast_mul, ← Int.natCast_ediv, ← Int.natCast_ediv]
    refine go_slS hz ?_
    rw [sl_nat]
    walk_at "rd"
    refine go_append h2 (by rw [List.length_map, List.length_map, List.length_range]; exact Nat.lt_of_le_of_lt (m := 100000) (by omega) (by decide)) ?_
    walk_at "rd"
    refine ⟨same_mut s2 n1, ?_, _, rfl⟩
    rw [upd_same, List.range_succ]
    simp
  · rintro σ' H' ⟨s2, h2, x, rfl⟩
    walk_at "rd"
    exact hQ _ _ ⟨p, rfl, n1, s2, h2⟩

end
/-! ## join, count -/
def mJoin (K : PySem.W.Frag) : V → List V → Hp → VK → Prop := fun x xs H Q => ∃ a p, ∃ ys : List Str, x = .str a ∧ xs = [.ref p] ∧ (SqL K H p (ys.map V.str) ∨ SqT K H p (ys.map V.str)) ∧
    (ys.map (·.length)).sum + ys.length * a.length ≤ 16777216 ∧ Q (.str (Txt.join a ys)) H
def mCount : V → List V → Hp → VK → Prop := fun x xs H Q => ∃ a b, x = .str a ∧ xs = [.str b] ∧ Q (.int (Txt.count a b)) H
theorem joinL_nil : ∀ ps : List (List Nat), TL.joinL [] ps = ps.flatten
  | [] => rfl
  | [p] => by simp [TL.joinL]
  | p :: q :: ps => by
    have := joinL_nil (q :: ps)
    simp [TL.joinL] at this ⊢
    exact this
theorem join_S (ps : List (List Bool)) : Txt.join "" (ps.map S) = S ps.flatten := by
  refine ext_tl ?_
  rw [TL.join_eq]
  show TL.tl (Str.join "" (ps.map S)) = _
  rw [TL.tl_join, S_nil]
  show TL.joinL [] _ = _
  rw [joinL_nil, tl_S, List.map_map, List.map_flatten]
  rfl
theorem sum_S (ps : List (List Bool)) : ((ps.map S).map (·.length)).sum = ps.flatten.length := by
  rw [List.map_map, List.length_flatten]
  congr 1
  refine List.map_congr_left fun l _ => ?_
  exact S_len l
theorem go_join {K : PySem.W.Frag} {H : Hp} {Q : VK} {p : Addr} {ps : List (List Bool)} (h : H p = some (LR ps)) (hz : ps.flatten.length ≤ 16777216) (q : Q (.str (S ps.flatten)) H) : mJoin K (.str "") [.ref p] H Q := by
  refine ⟨"", p, ps.map S, rfl, rfl, .inl (SqL.of ?_), ?_, ?_⟩
  · rw [h, List.map_map]
    rfl
  · rw [sum_S]
    have e : ("" : Str).length = 0 := by decide +kernel
    rw [e, Nat.mul_zero]
    omega
  · rw [join_S]
    exact q
theorem count_S : ∀ l : List Bool, cnt 49 (l.map sg) = (ones l : Int)
  | [] => rfl
  | true :: l => by
    have := count_S l
    show cnt 49 (49 :: l.map sg) = ((ones l + 1 : Nat) : Int)
    rw [cnt_cons, this, if_pos rfl]
    omega
  | false :: l => by
    have := count_S l
    show cnt 49 (48 :: l.map sg) = ((ones l : Nat) : Int)
    rw [cnt_cons, this, if_neg (by decide)]
    omega
theorem go_count {l : List Bool} {H : Hp} {Q : VK} (q : Q (.int (ones l)) H) : mCount (.str (S l)) [.str "1"] H Q := by
  refine ⟨_, _, rfl, rfl, ?_⟩
  have e : Txt.count (S l) "1" = (ones l : Int) := by
    rw [S_one]
    show Txt.count (S l) ⟨#[49]⟩ = _
    rw [count_cnt]
    exact count_S l
  rw [e]
  exact q
/-- a while, with a word behind it -/
theorem go_while2 {σ : St} {H : Hp} {D : Ends} {tb : TS} {tt : TT} (W : Nat → St → Hp → Prop) (Post : St → Hp → Prop) (m0 : Nat) (h0 : W m0 σ H)
    (hs : ∀ (D' : Ends), (∀ σ' H', Post σ' H' → D'.nx σ' H') → (∀ v H', D.rt v H' → D'.rt v H') → ∀ m σ' H', W m σ' H' → tt σ' H' fun b H1 => whK W m tb D' σ' b H1) (hx : ∀ σ' H', Post σ' H' → D.nx σ' H') : tWhile tt tb D σ H :=
  go_while W m0 h0 (hs D hx fun _ _ h => h)
/-- a for, its turn with a word behind it -/
structure Goes (D' : Ends) (N : St → Hp → Prop) (B : St → Hp → Prop) (R : VK) : Prop where
  nx : ∀ σ H, N σ H → D'.nx σ H
  ct : ∀ σ H, N σ H → D'.ct σ H
  bk : ∀ σ H, B σ H → D'.bk σ H
  rt : ∀ v H, R v H → D'.rt v H
/-- an if, with a word behind it -/
theorem go_join2 {σ : St} {H : Hp} {D : Ends} {t u : TS} (Post : St → Hp → Prop) (h : ∀ D' : Ends, (∀ σ' H', Post σ' H' → D'.nx σ' H') → (∀ v H', D.rt v H' → D'.rt v H') → (∀ σ' H', D.bk σ' H' → D'.bk σ' H') → (∀ σ' H', D.ct σ' H' → D'.ct σ' H') → t D' σ H)
    (k : ∀ σ' H', Post σ' H' → u D σ' H') : tSeq t u D σ H := h _ k (fun _ _ q => q) (fun _ _ q => q) (fun _ _ q => q)
theorem ifB_nf {A B : Prop} (h : A) : ifB (!false) A B := h
theorem ifB_nt {A B : Prop} (h : B) : ifB (!true) A B := ifB_f h

section
/-- one step of a reading; as many as go -/
local macro_rules | `(tactic| walk_at "st") => `(tactic| first
  | with_reducible refine go_seq ?_ | with_reducible refine go_asg ?_ | with_reducible refine go_gname ?_ | ((with_reducible refine go_var (v := ?vv) ?hv ?_); (case hv => rfl)) | with_reducible refine go_c ?_ | with_reducible refine go_op ?_
  | with_reducible refine go_add ?_ | with_reducible refine go_sub ?_ | with_reducible refine go_cb ?_ | with_reducible refine go_cons ?_ | with_reducible refine go_nil ?_ | with_reducible refine go_test ?_ | with_reducible refine go_isB ?_
  | with_reducible refine go_if ?_ | with_reducible refine go_lt ?_ | with_reducible refine go_le ?_ | with_reducible refine go_gt ?_ | with_reducible refine go_ge ?_ | with_reducible refine go_eqI ?_ | with_reducible refine go_neI ?_
  | with_reducible refine go_eq1 ?_ | with_reducible refine go_un ?_ | with_reducible refine go_neg ?_ | with_reducible refine go_tand ?_ | with_reducible refine go_tor ?_ | with_reducible refine go_tnot ?_ | with_reducible refine ifB_t ?_ | with_reducible refine ifB_f ?_ | with_reducible refine ifB_nf ?_ | with_reducible refine ifB_nt ?_
  | with_reducible refine go_andV ?_ | with_reducible refine go_orV ?_ | with_reducible refine go_notV ?_ | with_reducible refine go_chain ?_ | with_reducible refine go_tB ?_ | with_reducible refine go_nilt ?_
  | with_reducible refine go_ret ?_ | with_reducible refine go_retN ?_ | with_reducible refine go_next ?_ | with_reducible refine go_drop ?_ | with_reducible refine go_brk ?_ | with_reducible refine go_ct ?_
  | ((with_reducible refine go_aug (n := ?nn) ?ha ?_); (case ha => rfl)) | with_reducible refine go_augi ?_ | with_reducible refine go_lst ?_ | with_reducible refine go_tup ?_ | with_reducible refine go_pick ?_ | with_reducible refine go_picked ?_
  | with_reducible refine go_sl ?_ | with_reducible refine go_nopart ?_ | with_reducible refine go_part ?_ | with_reducible refine go_parti ?_ | with_reducible refine go_isN ?_ | with_reducible refine go_notN ?_ | with_reducible refine go_inS ?_ | with_reducible refine go_notInS ?_
  | with_reducible refine go_max2 ?_ | with_reducible refine go_min2 ?_ | with_reducible refine go_intB ?_ | with_reducible refine go_abs ?_ | with_reducible refine go_cl ?_ | with_reducible refine go_mt ?_ | with_reducible refine go_fld ?_
  | with_reducible refine go_bm ?_ | with_reducible refine go_bm0 ?_ | with_reducible refine ty_str ?_ | ((with_reducible refine ty_lst (xs := ?xx) ?ht ?_); (case ht => assumption))
  | with_reducible refine go_for ?_ | with_reducible refine go_iStr ?_ | with_reducible refine go_strK ?_ | with_reducible refine go_iList ?_ | with_reducible refine go_iEnS ?_ | with_reducible refine go_enSK ?_ | with_reducible refine go_iEnL ?_
  | with_reducible refine go_iR1 ?_ | with_reducible refine go_iR2 ?_ | with_reducible refine go_iR3 ?_ | with_reducible refine go_lc ?_
  | ((with_reducible refine go_div ?hc ?_); (case hc => decide)) | ((with_reducible refine go_mod ?hc ?_); (case hc => decide)) | ((with_reducible refine go_shr ?hc ?_); (case hc => decide)) | with_reducible refine go_and ?_ | with_reducible refine go_or ?_
  | ((with_reducible refine go_lenS ?hz ?_); (case hz => assumption)) | ((with_reducible refine go_lenL (xs := ?xx) ?hz ?_); (case hz => assumption)) | with_reducible refine go_sfld ?_ | with_reducible refine go_mk ?_ | with_reducible refine go_isiII ?_ | with_reducible refine go_isiIB ?_ | with_reducible refine go_isiSS ?_ | with_reducible refine go_gcons ?_ | with_reducible refine go_gnil ?_ | with_reducible refine go_and ?_ | with_reducible refine go_intS ?_ | with_reducible refine go_slT ?_ | with_reducible refine go_iTup ?_ | ((with_reducible refine go_mul ?hc ?_); (case hc => exact .inl ⟨by decide, by decide⟩)))
local macro_rules | `(tactic| walk_at "rd") => `(tactic| repeat walk_at "st")
local macro_rules | `(tactic| walk_at "go") => `(tactic| dsimp only [cxOf, Cx.nox, Cx.wish, L2.start, List.map, List.length_cons, List.length_nil, List.replicate, Nat.reduceAdd, Nat.reduceSub, List.cons_append, List.nil_append])
local macro_rules | `(tactic| walk_at "sz") => `(tactic| (refine Nat.le_trans (m := 100000) ?_ (by decide); first | (simp only [List.length_cons, List.length_nil, List.length_append, List.length_map]; omega) | omega))
/-- two lists of slots are the same -/
local macro_rules | `(tactic| walk_at "se") => `(tactic| ((try dsimp only [List.set]); (repeat' (first | rfl | refine congr (congrArg List.cons ?_) ?_ | refine congrArg (fun z => some (V.int z)) ?_)); (try omega)))
structure PutArg where
  p : Addr
  parts : List (List Bool)
  low : Nat
  high : Nat
  t : List Bool
structure PutPre (a : PutArg) (H : Hp) : Prop where
  hp : H a.p = some (LR a.parts)
  lh : a.low ≤ a.high
  hh : a.high ≤ a.parts.flatten.length
  sz : a.parts.flatten.length ≤ 20000
  sn : a.parts.length ≤ 20000
  st : a.t.length ≤ 20000
def sp_put_for (_ : PySem.W.Frag) : Sp := mkSp (α := PutArg) (fun a => [.ref a.p, .int a.low, .int a.high, .str (S a.t)]) PutPre (fun a H v H' => ∃ x y, AB a.parts a.low a.high x y ∧ NewO (LR (putAB a.parts a.low a.high a.t x y)) H v H')
theorem piece_le {parts : List (List Bool)} {i : Nat} {p : List Bool} (h : parts[i]? = some p) : p.length ≤ parts.flatten.length := by
  have := cum_succ h
  have := cum_top parts (i + 1)
  omega
theorem flat_sub {parts : List (List Bool)} {i j : Nat} : ((parts.drop i).take j).flatten.length ≤ parts.flatten.length := by
  have h1 : parts.flatten = (parts.take i).flatten ++ (parts.drop i).flatten := by rw [← List.flatten_append, List.take_append_drop]
  have h2 : (parts.drop i).flatten = ((parts.drop i).take j).flatten ++ ((parts.drop i).drop j).flatten := by rw [← List.flatten_append, List.take_append_drop]
  rw [h1, h2]
  simp
  omega
theorem sc_put_for : FnScope ["pieces", "low", "high", "text", "ahead", "begin", "behind", "end", "first", "amid"] ["pieces", "low", "high", "text"] (defScope s_put_for) := ⟨rfl, rfl, rfl, by decide +kernel, rfl, by decide +kernel, by decide +kernel⟩
theorem ok_put_for {P : Program} {w : World} {K : PySem.W.Frag} {mg : Str → Option Value} {base : Heap} (T : Top K mg) (R_cut_evenly : Rdy P w K mg base "cut_evenly" 1 ["text"] (sp_cut_evenly K)) : Rdy P w K mg base "put_for" 2 ["pieces", "low", "high", "text"] (sp_put_for K) := by
  refine rdy T.g_put_for T.f_put_for sc_put_for (fun _ => rfl) (fun _ _ _ _ _ _ us hl => match us, hl with | [_, _, _, _], _ => rfl) fun cdv A outer s H a Q E hr hp hQ => ⟨_, (pss_cons (ps_set (i := 4) sc_put_for.nd rfl (Or.inl rfl) pe_int)
      (pss_cons (ps_set (i := 5) sc_put_for.nd rfl (Or.inl rfl) pe_int)
      (pss_cons (ps_while PassesOwn.never (PW.pt (pw_and (pt_cmpR (r := rLt) op_lt (pv 4) (pe_callB (r := cLenL K) call_len_seq rfl T.b_len (by decide +kernel) (pa_cons (pv 0) pa_nil)) (nomark _)) (pw_and1 (pt_cmpR (r := rLe) op_le (pe_op (r := rAddI) op_add (pv 5) (pe_callB (r := cLenS) call_len_str rfl T.b_len (by decide +kernel) (pa_cons (pe_ix (r := rIxL K) ix_list (pv 0) (pv 4) (fun _ _ => rfl)) pa_nil))) (pv 1) (nomark _))))) (pss_cons (ps_aug (i := 5) sc_put_for.nd rfl (Or.inl rfl) (pe_callB (r := cLenS) call_len_str rfl T.b_len (by decide +kernel) (pa_cons (pe_ix (r := rIxL K) ix_list (pv 0) (pv 4) (fun _ _ => rfl)) pa_nil)) ip_add)
      (pss_one (ps_aug (i := 4) sc_put_for.nd rfl (Or.inl rfl) pe_int ip_add))))
      (pss_cons (ps_set (i := 6) sc_put_for.nd rfl (Or.inl rfl) (pv 4))
      (pss_cons (ps_set (i := 7) sc_put_for.nd rfl (Or.inl rfl) (pv 5))
      (pss_cons (ps_while PassesOwn.never (PW.pt (pw_and (pt_cmpR (r := rLt) op_lt (pv 6) (pe_callB (r := cLenL K) call_len_seq rfl T.b_len (by decide +kernel) (pa_cons (pv 0) pa_nil)) (nomark _)) (pw_and1 (pt_cmpR (r := rLt) op_lt (pv 7) (pv 2) (nomark _))))) (pss_cons (ps_aug (i := 7) sc_put_for.nd rfl (Or.inl rfl) (pe_callB (r := cLenS) call_len_str rfl T.b_len (by decide +kernel) (pa_cons (pe_ix (r := rIxL K) ix_list (pv 0) (pv 6) (fun _ _ => rfl)) pa_nil)) ip_add)
      (pss_one (ps_aug (i := 6) sc_put_for.nd rfl (Or.inl rfl) pe_int ip_add))))
      (pss_cons (ps_set (i := 8) sc_put_for.nd rfl (Or.inl rfl) (pe_callB (r := cMax2) (call_max2 rfl) rfl T.b_max (by decide +kernel) (pa_cons pe_int (pa_cons (pe_op (r := rSubI) op_sub (pv 4) pe_int) pa_nil))))
      (pss_cons (ps_aug (i := 5) sc_put_for.nd rfl (Or.inl rfl) (pe_callB (r := cLenS) call_len_str rfl T.b_len (by decide +kernel) (pa_cons (pe_bm PySem.F.plainAttrs_str PySem.F.slot_str_join PySem.F.type_str_join (r := mJoin K) mt_join pe_str (pa_cons (pe_slice sl_list (pv 0) (po_some (pv 8)) (po_some (pv 4))) pa_nil)) pa_nil)) ip_sub)
      (pss_cons (ps_set (i := 9) sc_put_for.nd rfl (Or.inl rfl) (pe_bm PySem.F.plainAttrs_str PySem.F.slot_str_join PySem.F.type_str_join (r := mJoin K) mt_join pe_str (pa_cons (pe_slice sl_list (pv 0) (po_some (pv 8)) (po_some (pe_op (r := rAddI) op_add (pv 6) pe_int))) pa_nil)))
      (pss_cons (ps_set (i := 9) sc_put_for.nd rfl (Or.inl rfl) (pe_op op_addS (pe_op op_addS (pe_slice sl_str (pv 9) po_none (po_some (pe_op (r := rSubI) op_sub (pv 1) (pv 5)))) (pv 3)) (pe_slice sl_str (pv 9) (po_some (pe_op (r := rSubI) op_sub (pv 2) (pv 5))) po_none)))
      (pss_one (ps_ret (pe_op op_cat (pe_op op_cat (pe_slice sl_list (pv 0) po_none (po_some (pv 8))) (pe_f R_cut_evenly (hr.mono (by decide)) (pa_cons (pv 9) pa_nil))) (pe_slice sl_list (pv 0) (po_some (pe_op (r := rAddI) op_add (pv 6) pe_int)) po_none)))))))))))))), ?_⟩
  obtain ⟨p, parts, low, high, t⟩ := a
  obtain ⟨hp, lh, hh, sz, sn, st⟩ := hp
  simp only at hp lh hh sz sn st
  have line : ∀ n : Nat, n ≤ 100000 → n ≤ sizeLine := fun n h => Nat.le_trans h (by decide)
  have piece : ∀ (i : Nat) (q : List Bool), parts[i]? = some q → q.length ≤ sizeLine := fun i q h => line _ (by have := piece_le h; omega)
  walk_at "go"
  walk_at "rd"
  -- the pieces ahead
  refine go_while2 (fun m σ' H' => H' = H ∧ ∃ a : Nat, a ≤ parts.length ∧ m = parts.length - a ∧ cum parts a ≤ low ∧
    σ' = [some (.ref p), some (.int low), some (.int high), some (.str (S t)), some (.int a), some (.int (cum parts a)), none, none, none, none])
    (fun σ' H' => H' = H ∧ ∃ a : Nat, a ≤ parts.length ∧ cum parts a ≤ low ∧ (a < parts.length → low < cum parts (a + 1)) ∧
    σ' = [some (.ref p), some (.int low), some (.int high), some (.str (S t)), some (.int a), some (.int (cum parts a)), none, none, none, none]) parts.length ?_ ?_ ?_
  · exact ⟨rfl, 0, Nat.zero_le _, rfl, by rw [cum_zero]; omega, rfl⟩
  · rintro D' hx _ m σ' H' ⟨eH, a, ha, rfl, hal, rfl⟩
    subst eH
    walk_at "rd"
    refine ifB_dec (fun h1 => ?_) (fun h1 => ?_)
    · rw [List.length_map] at h1
      have h2 : a < parts.length := by omega
      have e2 := List.getElem?_eq_getElem h2
      have e3 := cum_succ e2
      walk_at "rd"
      refine go_ixL hp (at_i a rfl (map_at e2)) ?_
      walk_at "rd"
      refine go_lenS (piece a _ e2) ?_
      walk_at "rd"
      refine whK_dec (fun h3 => ?_) (fun h3 => ?_)
      · walk_at "rd"
        refine go_ixL hp (at_i a rfl (map_at e2)) ?_
        walk_at "rd"
        refine go_lenS (piece a _ e2) ?_
        walk_at "rd"
        refine ⟨parts.length - (a + 1), by omega, rfl, a + 1, h2, rfl, by omega, ?_⟩
        rw [e3]
        walk_at "se"
      · exact hx _ _ ⟨rfl, a, ha, hal, fun _ => by omega, rfl⟩
    · rw [List.length_map] at h1
      exact whK_f (hx _ _ ⟨rfl, a, ha, hal, fun _ => by omega, rfl⟩)
  rintro σ' H' ⟨eH, a, ha, hal, han, rfl⟩
  subst eH
  walk_at "rd"
  -- the touched ones
  refine go_while2 (fun m σ' H1 => H1 = H' ∧ ∃ b : Nat, a ≤ b ∧ b ≤ parts.length ∧ m = parts.length - b ∧ (∀ i, a ≤ i → i < b → cum parts i < high) ∧
    σ' = [some (.ref p), some (.int low), some (.int high), some (.str (S t)), some (.int a), some (.int (cum parts a)), some (.int b), some (.int (cum parts b)), none, none])
    (fun σ' H1 => H1 = H' ∧ ∃ b : Nat, AB parts low high a b ∧
    σ' = [some (.ref p), some (.int low), some (.int high), some (.str (S t)), some (.int a), some (.int (cum parts a)), some (.int b), some (.int (cum parts b)), none, none]) (parts.length - a) ?_ ?_ ?_
  · exact ⟨rfl, a, Nat.le_refl _, ha, rfl, fun i h1 h2 => by omega, rfl⟩
  · rintro D' hx _ m σ' H1 ⟨eH, b, hab, hb, rfl, hbi, rfl⟩
    subst eH
    walk_at "rd"
    refine ifB_dec (fun h1 => ?_) (fun h1 => ?_)
    · rw [List.length_map] at h1
      have h2 : b < parts.length := by omega
      have e2 := List.getElem?_eq_getElem h2
      have e3 := cum_succ e2
      walk_at "rd"
      refine whK_dec (fun h3 => ?_) (fun h3 => ?_)
      · walk_at "rd"
        refine go_ixL hp (at_i b rfl (map_at e2)) ?_
        walk_at "rd"
        refine go_lenS (piece b _ e2) ?_
        walk_at "rd"
        refine ⟨parts.length - (b + 1), by omega, rfl, b + 1, by omega, h2, rfl, fun i h4 h5 => ?_, ?_⟩
        · by_cases hib : i = b
          · subst hib
            omega
          · exact hbi i h4 (by omega)
        · rw [e3]
          walk_at "se"
      · exact hx _ _ ⟨rfl, b, ⟨hab, hb, hal, han, .inr (by omega), hbi⟩, rfl⟩
    · rw [List.length_map] at h1
      exact whK_f (hx _ _ ⟨rfl, b, ⟨hab, hb, hal, han, .inl (by omega), hbi⟩, rfl⟩)
  rintro σ' H1 ⟨eH, b, hAB, rfl⟩
  subst eH
  have c1 : cum parts (a - 2) ≤ cum parts a := cum_mono parts (by omega)
  have c2 := hAB.hi hh
  have c3 := cum_top parts b
  have c4 : cum parts b ≤ cum parts (b + 2) := cum_mono parts (by omega)
  have hab := hAB.ab
  have hbn := hAB.bn
  walk_at "rd"
  have e1 : max 0 ((a : Int) - 2) = ((a - 2 : Nat) : Int) := by omega
  rw [e1]
  walk_at "rd"
  refine go_slL (SqL.of hp) fun p1 H2 n2 s2 h2 => ?_
  rw [cutV_nat, ← List.map_drop, ← List.map_take] at h2
  walk_at "rd"
  refine go_join h2 (by have := flat_sub (parts := parts) (i := a - 2) (j := a - (a - 2)); omega) ?_
  walk_at "rd"
  refine go_lenS (line _ (by have := flat_sub (parts := parts) (i := a - 2) (j := a - (a - 2)); omega)) ?_
  walk_at "rd"
  have e2 : (((parts.drop (a - 2)).take (a - (a - 2))).flatten.length : Int) = (cum parts a : Int) - cum parts (a - 2) := by
    rw [flat_mid parts (show a - 2 ≤ a by omega), List.length_take, List.length_drop]
    have := cum_top parts a
    omega
  rw [e2]
  have e3 : (cum parts a : Int) - ((cum parts a : Int) - cum parts (a - 2)) = (cum parts (a - 2) : Nat) := by omega
  rw [e3]
  refine go_slL (SqL.of (s2 _ _ hp)) fun p2 H3 n3 s3 h3 => ?_
  have eb : (b : Int) + 2 = ((b + 2 : Nat) : Int) := by omega
  rw [eb, cutV_nat, ← List.map_drop, ← List.map_take] at h3
  have hfl := flat_sub (parts := parts) (i := a - 2) (j := b + 2 - (a - 2))
  walk_at "rd"
  refine go_join h3 (by omega) ?_
  walk_at "rd"
  have e4 : (low : Int) - (cum parts (a - 2) : Nat) = ((low - cum parts (a - 2) : Nat) : Int) := by omega
  rw [e4]
  refine go_slS (line _ (by omega)) ?_
  rw [sl_to]
  walk_at "rd"
  refine go_addS (line _ (by rw [List.length_take]; omega)) ?_
  walk_at "rd"
  have e5 : (high : Int) - (cum parts (a - 2) : Nat) = ((high - cum parts (a - 2) : Nat) : Int) := by omega
  rw [e5]
  refine go_slS (line _ (by omega)) ?_
  rw [sl_from]
  walk_at "rd"
  refine go_addS (line _ (by rw [List.length_append, List.length_take, List.length_drop]; omega)) ?_
  walk_at "rd"
  refine go_slL (SqL.of (s3 _ _ (s2 _ _ hp))) fun p3 H4 n4 s4 h4 => ?_
  rw [cutV_to, ← List.map_take] at h4
  walk_at "rd"
  have hl : (amid parts low high t a b).length ≤ 60000 := by
    unfold amid
    simp only [List.length_append, List.length_take, List.length_drop]
    omega
  refine ⟨amid parts low high t a b, rfl, by omega, ?_⟩
  rintro v H5 ⟨p4, rfl, n5, s5, h5⟩
  refine go_cat (s5 _ _ h4) h5 (line _ (by rw [List.length_map, List.length_map, cuts_len, List.length_take]; omega)) fun p5 H6 n6 s6 h6 => ?_
  walk_at "rd"
  refine go_slL (SqL.of (s6 _ _ (s5 _ _ (s4 _ _ (s3 _ _ (s2 _ _ hp)))))) fun p6 H7 n7 s7 h7 => ?_
  rw [eb, cutV_from, ← List.map_drop] at h7
  refine go_cat (s7 _ _ h6) h7 (line _ (by simp only [List.length_append, List.length_map, cuts_len, List.length_take, List.length_drop]; omega)) fun p7 H8 n8 s8 h8 => ?_
  have sa := ((((((s2.trans s3).trans s4).trans s5).trans s6).trans s7))
  refine hQ _ _ ⟨a, b, hAB, p7, rfl, sa.free n8, sa.trans s8, ?_⟩
  rw [h8]
  unfold putAB
  simp only [LR, List.map_append]

end
/-! ## bits.py, words.py: what is told there of rows -/
theorem rgc_up {n c : Nat} (hc : 0 < c) (hc2 : c ≤ 1000) (hn : n ≤ 100000) : RgC 0 (n : Int) (c : Int) ((n + c - 1) / c) := by
  have hs : Builtin.Range.rangeSize 0 (n : Int) (c : Int) = (((n + c - 1) / c : Nat) : Int) := by
    unfold Builtin.Range.rangeSize
    rw [if_pos (by omega)]
    by_cases h : (0 : Int) < (n : Int)
    · rw [if_pos h]
      have e1 : (n : Int) - 0 - 1 = ((n - 1 : Nat) : Int) := by omega
      have e2 : n + c - 1 = (n - 1) + c := by omega
      rw [e1, e2, Nat.add_div_right _ hc, ← Int.natCast_ediv]
      omega
    · rw [if_neg h]
      have : n = 0 := by omega
      subst this
      rw [Nat.zero_add, Nat.div_eq_of_lt (by omega)]
      rfl
  have hm : (n + c - 1) / c ≤ n + c - 1 := Nat.div_le_self _ _
  refine ⟨by omega, by omega, ?_, hs⟩
  unfold Builtin.Range.small
  rw [hs, if_pos (by omega)]
  simp only [Builtin.Range.rangeFitsLong, Bool.and_eq_true, Bool.or_eq_true, decide_eq_true_eq, beq_iff_eq]
  generalize (n + c - 1) / c = m at *
  omega
theorem go_rng3u {n c : Nat} {H : Hp} {R : It → Hp → Prop} (hc : 0 < c) (hc2 : c ≤ 1000) (hn : n ≤ 100000) (q : R (Itc 0 c ((n + c - 1) / c)) H) : rng3K [.int 0, .int (n : Int), .int (c : Int)] H R :=
  ⟨0, n, c, _, rfl, rgc_up hc hc2 hn, q⟩
section
variable {K : PySem.W.Frag} {H : Hp} {Q : VK} {i : Int} {z : Str} {p : Addr} {xs : List V}
theorem go_isiII (q : Q (.bl true) H) : rIsi K [.int i, .ty "int"] H Q := ⟨_, _, _, _, true, rfl, .ty _, .base (.int i), kit_ty (by decide +kernel), q⟩
theorem go_isiIB (q : Q (.bl false) H) : rIsi K [.int i, .ty "bool"] H Q := ⟨_, _, _, _, false, rfl, .ty _, .base (.int i), kit_ty (by decide +kernel), q⟩
theorem go_isiSS (q : Q (.bl true) H) : rIsi K [.str z, .ty "str"] H Q := ⟨_, _, _, _, true, rfl, .ty _, .base (.str z), kit_ty (by decide +kernel), q⟩
theorem go_isiLL (h : H p = some (.lst xs)) (q : Q (.bl true) H) : rIsi K [.ref p, .ty "list"] H Q := ⟨_, _, _, _, true, rfl, .ty _, .base (.lst h), kit_ty (by decide +kernel), q⟩
end
/-! ### a chunk as a word -/
def wrd : List Bool → Nat
  | [] => 0
  | b :: t => (if b then 1 else 0) + 2 * wrd t
theorem wrd_snoc : ∀ (l : List Bool) (b : Bool), wrd (l ++ [b]) = wrd l + (if b then 1 else 0) * 2 ^ l.length
  | [], b => by cases b <;> rfl
  | x :: l, b => by
    have ih := wrd_snoc l b
    simp only [List.cons_append, wrd, List.length_cons]
    rw [ih, Nat.pow_succ]
    cases b <;> simp <;> omega
theorem wrd_lt : ∀ l : List Bool, wrd l < 2 ^ l.length
  | [] => by decide
  | x :: l => by
    have ih := wrd_lt l
    simp only [wrd, List.length_cons, Nat.pow_succ]
    cases x <;> simp <;> omega
theorem wrd_bit : ∀ (l : List Bool) (i : Nat) (b : Bool), l[i]? = some b → wrd l / 2 ^ i % 2 = if b then 1 else 0
  | [], i, b, h => by simp at h
  | x :: l, 0, b, h => by
    have e : x = b := by simpa using h
    subst e
    simp only [wrd, Nat.pow_zero, Nat.div_one]
    cases x <;> simp <;> omega
  | x :: l, i + 1, b, h => by
    have ih := wrd_bit l i b (by simpa using h)
    simp only [wrd, Nat.pow_succ]
    rw [Nat.mul_comm (2 ^ i) 2, ← Nat.div_div_eq_div_mul]
    have e : ((if x then 1 else 0) + 2 * wrd l) / 2 = wrd l := by cases x <;> simp <;> omega
    rw [e]
    exact ih
/-- the words of a row -/
def wrds (l : List Bool) (k : Nat) : List Int := (List.range k).map fun j => ((wrd ((l.drop (32 * j)).take 32) : Nat) : Int)
theorem bit_of {l : List Bool} {i : Nat} {b : Bool} (h : l[i]? = some b) : Builtin.bitAnd (((wrd ((l.drop (32 * (i / 32))).take 32) : Nat) : Int) / 2 ^ (i % 32)) 1 = if b then 1 else 0 := by
  have h1 : ((l.drop (32 * (i / 32))).take 32)[i % 32]? = some b := by
    rw [List.getElem?_take, if_pos (Nat.mod_lt _ (by decide)), List.getElem?_drop, Nat.div_add_mod]
    exact h
  have h2 := wrd_bit _ _ _ h1
  have h3 := Bits.bit_at (x := ((wrd ((l.drop (32 * (i / 32))).take 32) : Nat) : Int)) (i % 32)
  rw [Int.fdiv_eq_ediv_of_nonneg _ (by exact Int.le_of_lt (Int.pow_pos (by decide)))] at h3
  rw [h3]
  have e : (((wrd ((l.drop (32 * (i / 32))).take 32) : Nat) : Int) / 2 ^ (i % 32) % 2) = ((wrd ((l.drop (32 * (i / 32))).take 32) / 2 ^ (i % 32) % 2 : Nat) : Int) := by
    rw [Int.natCast_emod, Int.natCast_ediv, Int.natCast_pow]
    rfl
  rw [e, h2]
  cases b <;> rfl
theorem or_step (l : List Bool) : Builtin.bitOr ((wrd l : Nat) : Int) (1 * 2 ^ l.length) = ((wrd (l ++ [true]) : Nat) : Int) := by
  have h := Bits.bitOr_join (a := ((wrd l : Nat) : Int)) (b := 1) (k := l.length) (by omega) (by
    have := wrd_lt l
    have e : ((2 : Int) ^ l.length) = ((2 ^ l.length : Nat) : Int) := by rw [Int.natCast_pow]; rfl
    rw [e]
    omega) (by decide)
  rw [h, wrd_snoc]
  simp

section
/-- one step of a reading; as many as go -/
local macro_rules | `(tactic| walk_at "st") => `(tactic| first
  | with_reducible refine go_seq ?_ | with_reducible refine go_asg ?_ | with_reducible refine go_gname ?_ | ((with_reducible refine go_var (v := ?vv) ?hv ?_); (case hv => rfl)) | with_reducible refine go_c ?_ | with_reducible refine go_op ?_
  | with_reducible refine go_add ?_ | with_reducible refine go_sub ?_ | with_reducible refine go_cb ?_ | with_reducible refine go_cons ?_ | with_reducible refine go_nil ?_ | with_reducible refine go_test ?_ | with_reducible refine go_isB ?_
  | with_reducible refine go_if ?_ | with_reducible refine go_lt ?_ | with_reducible refine go_le ?_ | with_reducible refine go_gt ?_ | with_reducible refine go_ge ?_ | with_reducible refine go_eqI ?_ | with_reducible refine go_neI ?_
  | with_reducible refine go_eq1 ?_ | with_reducible refine go_un ?_ | with_reducible refine go_neg ?_ | with_reducible refine go_tand ?_ | with_reducible refine go_tor ?_ | with_reducible refine go_tnot ?_ | with_reducible refine ifB_t ?_ | with_reducible refine ifB_f ?_ | with_reducible refine ifB_nf ?_ | with_reducible refine ifB_nt ?_
  | with_reducible refine go_andV ?_ | with_reducible refine go_orV ?_ | with_reducible refine go_notV ?_ | with_reducible refine go_chain ?_ | with_reducible refine go_tB ?_ | with_reducible refine go_nilt ?_
  | with_reducible refine go_ret ?_ | with_reducible refine go_retN ?_ | with_reducible refine go_next ?_ | with_reducible refine go_drop ?_ | with_reducible refine go_brk ?_ | with_reducible refine go_ct ?_
  | ((with_reducible refine go_aug (n := ?nn) ?ha ?_); (case ha => rfl)) | with_reducible refine go_augi ?_ | with_reducible refine go_lst ?_ | with_reducible refine go_tup ?_ | with_reducible refine go_pick ?_ | with_reducible refine go_picked ?_
  | with_reducible refine go_sl ?_ | with_reducible refine go_nopart ?_ | with_reducible refine go_part ?_ | with_reducible refine go_parti ?_ | with_reducible refine go_isN ?_ | with_reducible refine go_notN ?_ | with_reducible refine go_inS ?_ | with_reducible refine go_notInS ?_
  | with_reducible refine go_max2 ?_ | with_reducible refine go_min2 ?_ | with_reducible refine go_intB ?_ | with_reducible refine go_abs ?_ | with_reducible refine go_cl ?_ | with_reducible refine go_mt ?_ | with_reducible refine go_fld ?_
  | with_reducible refine go_bm ?_ | with_reducible refine go_bm0 ?_ | with_reducible refine ty_str ?_ | ((with_reducible refine ty_lst (xs := ?xx) ?ht ?_); (case ht => assumption))
  | with_reducible refine go_for ?_ | with_reducible refine go_iStr ?_ | with_reducible refine go_strK ?_ | with_reducible refine go_iList ?_ | with_reducible refine go_iEnS ?_ | with_reducible refine go_enSK ?_ | with_reducible refine go_iEnL ?_
  | with_reducible refine go_iR1 ?_ | with_reducible refine go_iR2 ?_ | with_reducible refine go_iR3 ?_ | with_reducible refine go_lc ?_
  | ((with_reducible refine go_div ?hc ?_); (case hc => decide)) | ((with_reducible refine go_mod ?hc ?_); (case hc => decide)) | ((with_reducible refine go_shr ?hc ?_); (case hc => decide)) | with_reducible refine go_and ?_ | with_reducible refine go_or ?_
  | ((with_reducible refine go_lenS ?hz ?_); (case hz => assumption)) | ((with_reducible refine go_lenL (xs := ?xx) ?hz ?_); (case hz => assumption)) | with_reducible refine go_sfld ?_ | with_reducible refine go_mk ?_ | with_reducible refine go_isiII ?_ | with_reducible refine go_isiIB ?_ | with_reducible refine go_isiSS ?_ | with_reducible refine go_gcons ?_ | with_reducible refine go_gnil ?_ | with_reducible refine go_and ?_ | with_reducible refine go_intS ?_ | with_reducible refine go_slT ?_ | with_reducible refine go_iTup ?_ | ((with_reducible refine go_mul ?hc ?_); (case hc => exact .inl ⟨by decide, by decide⟩)))
local macro_rules | `(tactic| walk_at "rd") => `(tactic| repeat walk_at "st")
local macro_rules | `(tactic| walk_at "go") => `(tactic| dsimp only [cxOf, Cx.nox, Cx.wish, L2.start, List.map, List.length_cons, List.length_nil, List.replicate, Nat.reduceAdd, Nat.reduceSub, List.cons_append, List.nil_append])
local macro_rules | `(tactic| walk_at "sz") => `(tactic| (refine Nat.le_trans (m := 100000) ?_ (by decide); first | (simp only [List.length_cons, List.length_nil, List.length_append, List.length_map]; omega) | omega))
/-- two lists of slots are the same -/
local macro_rules | `(tactic| walk_at "se") => `(tactic| ((try dsimp only [List.set]); (repeat' (first | rfl | refine congr (congrArg List.cons ?_) ?_ | refine congrArg (fun z => some (V.int z)) ?_)); (try omega)))
/-! ## objects -/
theorem lk_hit {f : Str} {v : V} {r : List (Str × V)} : List.lookup f ((f, v) :: r) = some v := by simp [List.lookup]
theorem lk_miss {f g : Str} {v : V} {r : List (Str × V)} (h : (f == g) = false) : List.lookup f ((g, v) :: r) = List.lookup f r := by simp [List.lookup, h]
theorem lk_nil {f : Str} : List.lookup f ([] : List (Str × V)) = none := rfl
theorem pf_nil {f : Str} {v : V} : putF f v [] = [(f, v)] := rfl
theorem pf_hit {f : Str} {v y : V} {r : List (Str × V)} : putF f v ((f, y) :: r) = (f, v) :: r := by
  rw [show putF f v ((f, y) :: r) = (if f = f then (f, v) :: r else (f, y) :: putF f v r) from rfl, if_pos rfl]
theorem pf_miss {f g : Str} {v y : V} {r : List (Str × V)} (h : ¬ g = f) : putF f v ((g, y) :: r) = (g, y) :: putF f v r := by
  rw [show putF f v ((g, y) :: r) = (if g = f then (g, v) :: r else (g, y) :: putF f v r) from rfl, if_neg h]
/-- all but x is as it was -/
def Keep (x : Addr) (H H' : Hp) : Prop := ∀ b o, b ≠ x → H b = some o → H' b = some o
theorem Keep.refl (x : Addr) (H : Hp) : Keep x H H := fun _ _ _ h => h
theorem Keep.upd {x : Addr} {H H' : Hp} {o : HO} (k : Keep x H H') : Keep x H (upd H' x o) := fun b u hb e => by
  rw [upd_ne hb]
  exact k b u hb e
theorem Keep.same {x : Addr} {H H' H2 : Hp} (k : Keep x H H') (s : Same H' H2) : Keep x H H2 := fun b u hb e => s _ _ (k b u hb e)
theorem Same.keep {x : Addr} {H H' H2 : Hp} (s : Same H H') (k : Keep x H' H2) : Keep x H H2 := fun b u hb e => k b u hb (s _ _ e)
theorem Keep.made {x : Addr} {H H1 H2 : Hp} (hx : H x = none) (s : Same H H1) (k : Keep x H1 H2) : Same H H2 := fun b u e => k b u (ne_of_none e hx) (s _ _ e)
section
variable {K : PySem.W.Frag} {σ : St} {H : Hp} {Q : VK} {D : Ends} {x : V} {C dx p : Addr} {fs : List (Str × V)} {f m : Str} {v y : V} {sp : Sp} {tA : TA} {ta tv : TE} {vs : List V}
theorem go_fldK (h : H p = some (.ins C dx fs)) (c : Cls K C) (n : NoAttr K C f) (l : fs.lookup f = some v) (q : Q v H) : fldK K f (.ref p) H Q := ⟨p, C, dx, fs, v, rfl, h, c, n, l, q⟩
theorem go_mtK (h : H p = some (.ins C dx fs)) (l : fs.lookup m = none) (q : tA σ H fun vs H2 => sp (.ref p :: vs) H2 Q E0) : ∃ a dx fs, V.ref p = .ref a ∧ H a = some (.ins C dx fs) ∧ fs.lookup m = none ∧ tA σ H fun vs H2 => sp (V.ref p :: vs) H2 Q E0 :=
  ⟨p, dx, fs, rfl, h, l, q⟩
def mkK (C : Addr) (sp : Sp) (vs : List V) (H1 : Hp) (Q : VK) : Prop := ∀ x dx, H1 x = none → H1 dx = none → dx ≠ x → sp (.ref x :: vs) (upd (upd H1 dx (.own x)) x (.ins C dx [])) (fun v H2 => v = .non ∧ Q (.ref x) H2) E0
theorem go_mk (q : tA σ H fun vs H1 => mkK C sp vs H1 Q) : tMk C sp tA σ H Q := q
theorem go_mkK (q : ∀ x dx H2, H x = none → Same H H2 → H2 x = some (.ins C dx []) → sp (.ref x :: vs) H2 (fun v H3 => v = .non ∧ Q (.ref x) H3) E0) : mkK C sp vs H Q := fun x dx hx hd ne =>
  q x dx _ hx (fun b o e => by rw [upd_ne (ne_of_none e hx), upd_ne (ne_of_none e hd)]; exact e) upd_same
def setK (K : PySem.W.Frag) (f : Str) (y : V) (D : Ends) (σ : St) (x : V) (H2 : Hp) : Prop := ∃ a C dx fs, x = .ref a ∧ H2 a = some (.ins C dx fs) ∧ Cls K C ∧ NoAttr K C f ∧ fs.length < 1000 ∧ D.nx σ (upd H2 a (.ins C dx (putF f y fs)))
theorem go_sfld (q : tv σ H fun y H1 => ta σ H1 fun x H2 => setK K f y D σ x H2) : sFld K ta tv f D σ H := q
theorem go_setK {fs' : List (Str × V)} (h : H p = some (.ins C dx fs)) (c : Cls K C) (n : NoAttr K C f) (l : fs.length < 1000) (e : putF f y fs = fs') (q : ∀ H3, H3 p = some (.ins C dx fs') → Keep p H H3 → D.nx σ H3) : setK K f y D σ (.ref p) H :=
  ⟨p, C, dx, fs, rfl, h, c, n, l, q _ (by rw [upd_same, e]) fun b o hb q => by rw [upd_ne hb]; exact q⟩
end
/-! ## words.py, bits.py -/
def onesW (w : Int) : Int :=
  let w1 := w - Builtin.bitAnd (w / 2 ^ (1 : Int).toNat) 1431655765
  let w2 := Builtin.bitAnd w1 858993459 + Builtin.bitAnd (w1 / 2 ^ (2 : Int).toNat) 858993459
  let w3 := Builtin.bitAnd w2 252645135 + Builtin.bitAnd (w2 / 2 ^ (4 : Int).toNat) 252645135
  let w4 := Builtin.bitAnd w3 16711935 + Builtin.bitAnd (w3 / 2 ^ (8 : Int).toNat) 16711935
  Builtin.bitAnd w4 65535 + w4 / 2 ^ (16 : Int).toNat
def sp_ones_in (_ : PySem.W.Frag) : Sp := mkSp (α := Int) (fun a => [.int a]) (fun _ _ => True) (fun a H v H' => H' = H ∧ v = .int (onesW a))
theorem sc_ones_in : FnScope ["word"] ["word"] (defScope s_ones_in) := ⟨rfl, rfl, rfl, by decide +kernel, rfl, by decide +kernel, by decide +kernel⟩
theorem ok_ones_in {P : Program} {w : World} {K : PySem.W.Frag} {mg : Str → Option Value} {base : Heap} (T : Top K mg)  : Rdy P w K mg base "ones_in" 1 ["word"] (sp_ones_in K) := by
  refine rdy T.g_ones_in T.f_ones_in sc_ones_in (fun _ => rfl) (fun _ _ _ _ _ _ us hl => match us, hl with | [_], _ => rfl) fun cdv A outer s H a Q E hr hp hQ => ⟨_, (pss_cons (ps_set (i := 0) sc_ones_in.nd rfl (Or.inl rfl) (pe_op (r := rSubI) op_sub (pv 0) (pe_op (r := rAndI) op_and (pe_op (r := rShrI) op_shr (pv 0) pe_int) pe_int)))
      (pss_cons (ps_set (i := 0) sc_ones_in.nd rfl (Or.inl rfl) (pe_op (r := rAddI) op_add (pe_op (r := rAndI) op_and (pv 0) pe_int) (pe_op (r := rAndI) op_and (pe_op (r := rShrI) op_shr (pv 0) pe_int) pe_int)))
      (pss_cons (ps_set (i := 0) sc_ones_in.nd rfl (Or.inl rfl) (pe_op (r := rAddI) op_add (pe_op (r := rAndI) op_and (pv 0) pe_int) (pe_op (r := rAndI) op_and (pe_op (r := rShrI) op_shr (pv 0) pe_int) pe_int)))
      (pss_cons (ps_set (i := 0) sc_ones_in.nd rfl (Or.inl rfl) (pe_op (r := rAddI) op_add (pe_op (r := rAndI) op_and (pv 0) pe_int) (pe_op (r := rAndI) op_and (pe_op (r := rShrI) op_shr (pv 0) pe_int) pe_int)))
      (pss_one (ps_ret (pe_op (r := rAddI) op_add (pe_op (r := rAndI) op_and (pv 0) pe_int) (pe_op (r := rShrI) op_shr (pv 0) pe_int)))))))), ?_⟩
  walk_at "go"
  walk_at "rd"
  exact hQ _ _ ⟨rfl, rfl⟩
def sp_is_amid (_ : PySem.W.Frag) : Sp := mkSp (α := Int × Int × Int) (fun a => [.int a.1, .int a.2.1, .int a.2.2]) (fun a _ => a.2.1 ≤ a.1 ∧ a.1 ≤ a.2.2) (fun _ H v H' => H' = H ∧ v = .bl true)
theorem sc_is_amid : FnScope ["thing", "low", "high"] ["thing", "low", "high"] (defScope s_is_amid) := ⟨rfl, rfl, rfl, by decide +kernel, rfl, by decide +kernel, by decide +kernel⟩
theorem ok_is_amid {P : Program} {w : World} {K : PySem.W.Frag} {mg : Str → Option Value} {base : Heap} (T : Top K mg)  : Rdy P w K mg base "is_amid" 1 ["thing", "low", "high"] (sp_is_amid K) := by
  refine rdy T.g_is_amid T.f_is_amid sc_is_amid (fun _ => rfl) (fun _ _ _ _ _ _ us hl => match us, hl with | [_, _, _], _ => rfl) fun cdv A outer s H a Q E hr hp hQ => ⟨_, (pss_one (ps_ret (pe_and (pe_callB call_isi rfl T.b_isinstance (by decide +kernel) (pa_cons (pv 0) (pa_cons (pe_bltn (v := .ty "int") rfl T.b_int (by decide +kernel) rfl) pa_nil))) (pe_and (pe_not (pe_callB call_isi rfl T.b_isinstance (by decide +kernel) (pa_cons (pv 0) (pa_cons (pe_bltn (v := .ty "bool") rfl T.b_bool (by decide +kernel) rfl) pa_nil)))) (pe_one (pe_chain (r := rLe) (r' := rLe) op_le op_le (pv 1) (pv 0) (pv 2))))))), ?_⟩
  obtain ⟨t, lo, hi⟩ := a
  obtain ⟨h1, h2⟩ := hp
  simp only at h1 h2
  walk_at "go"
  walk_at "rd"
  refine ifB_y (decide_eq_true h1) ?_
  walk_at "rd"
  rw [decide_eq_true h2]
  exact hQ _ _ ⟨rfl, rfl⟩
def sp_words_of (_ : PySem.W.Frag) : Sp := mkSp (α := List Bool) (fun a => [.str (S a)]) (fun a _ => a.length ≤ 20000) (fun a H v H' => NewO (.tup ((wrds a ((a.length + 31) / 32)).map V.int)) H v H')
theorem sc_words_of : FnScope ["text", "words", "start", "word", "place", "sign"] ["text"] (defScope s_words_of) := ⟨rfl, rfl, rfl, by decide +kernel, rfl, by decide +kernel, by decide +kernel⟩
theorem ok_words_of {P : Program} {w : World} {K : PySem.W.Frag} {mg : Str → Option Value} {base : Heap} (T : Top K mg)  : Rdy P w K mg base "words_of" 1 ["text"] (sp_words_of K) := by
  obtain ⟨t_WORD_words, c_WORD_words⟩ := T.i_WORD_words
  refine rdy T.g_words_of T.f_words_of sc_words_of (fun _ => rfl) (fun _ _ _ _ _ _ us hl => match us, hl with | [_], _ => rfl) fun cdv A outer s H a Q E hr hp hQ => ⟨_, (pss_cons (ps_set (i := 1) sc_words_of.nd rfl (Or.inl rfl) (pe_lst pa_nil))
      (pss_cons (ps_for PassesOwn.never rfl (pi_range3 rfl T.b_range (pa_cons pe_int (pa_cons (pe_callB (r := cLenS) call_len_str rfl T.b_len (by decide +kernel) (pa_cons (pv 0) pa_nil)) (pa_cons (pe_glob (v := .int 32) rfl c_WORD_words ⟨_, rfl⟩) pa_nil)))) (pg_name (i := 2) sc_words_of.nd rfl (Or.inl rfl)) (pss_cons (ps_set (i := 3) sc_words_of.nd rfl (Or.inl rfl) pe_int)
      (pss_cons (ps_for PassesOwn.never rfl (pi_enumS rfl T.b_enumerate (pa_cons (pe_slice sl_str (pv 0) (po_some (pv 2)) (po_some (pe_op (r := rAddI) op_add (pv 2) (pe_glob (v := .int 32) rfl c_WORD_words ⟨_, rfl⟩)))) pa_nil)) (pg_tup rfl (pgs_cons (pg_name (i := 4) sc_words_of.nd rfl (Or.inl rfl)) (pgs_cons (pg_name (i := 5) sc_words_of.nd rfl (Or.inl rfl)) pgs_nil))) (pss_one (ps_if (pt_cmpR (r := rEq) op_eq (pv 5) pe_str (nomark _)) (pss_one (ps_set (i := 3) sc_words_of.nd rfl (Or.inl rfl) (pe_op (r := rOrI) op_or (pv 3) (pe_op (r := rShlI) op_shl pe_int (pv 4))))) pss_nil)))
      (pss_one (ps_expr (pe_bm PySem.F.plainAttrs_list PySem.F.slot_list_append PySem.F.type_list_append mt_append (pv 1) (pa_cons (pv 3) pa_nil)))))))
      (pss_one (ps_ret (pe_callTy (r := cTupOf K) call_tuple_of rfl T.b_tuple (by decide +kernel) (pa_cons (pv 1) pa_nil)))))), ?_⟩
  replace hp : a.length ≤ 20000 := hp
  have hz : a.length ≤ sizeLine := Nat.le_trans hp (by decide)
  walk_at "go"
  walk_at "rd"
  refine go_newL (by walk_at "sz") fun p H1 n1 s1 h1 => ?_
  walk_at "rd"
  refine go_rng3u (n := a.length) (c := 32) (by decide) (by decide) (by omega) ?_
  refine loop_rngC (fun i σ' H' => Same H H' ∧ H' p = some (LI (wrds a i)) ∧ ∃ x1 x2 x3 x4, σ' = [some (.str (S a)), some (.ref p), x1, x2, x3, x4]) ?_ ?_ ?_
  · exact ⟨s1, h1, none, none, none, none, rfl⟩
  · rintro i σ' H' hi ⟨s2, h2, x1, x2, x3, x4, rfl⟩
    have e1 : (0 : Int) + (i : Int) * ((32 : Nat) : Int) = ((32 * i : Nat) : Int) := by omega
    rw [e1]
    walk_at "rd"
    refine go_slS hz ?_
    have e2 : ((32 * i : Nat) : Int) + 32 = ((32 * i + 32 : Nat) : Int) := by omega
    rw [e2, sl_nat]
    have e3 : 32 * i + 32 - 32 * i = 32 := by omega
    rw [e3]
    walk_at "rd"
    refine loop_enS (l := (a.drop (32 * i)).take 32) (fun pre σ' H3 => Same H H3 ∧ H3 p = some (LI (wrds a i)) ∧ ∃ x3 x4, σ' = [some (.str (S a)), some (.ref p), some (.int (32 * i : Nat)), some (.int (wrd pre)), x3, x4]) ?_ ?_ ?_
    · exact ⟨s2, h2, _, _, rfl⟩
    · rintro pre b post σ' H3 H4 e ⟨s3, h3, x3, x4, rfl⟩ s4
      walk_at "rd"
      have hl : pre.length ≤ 32 := by
        have h5 : pre.length ≤ ((a.drop (32 * i)).take 32).length := by rw [e]; simp
        rw [List.length_take] at h5
        omega
      refine ifB_of (fun hb => ?_) (fun hb => ?_)
      · subst hb
        walk_at "rd"
        refine go_shl (by refine ⟨by omega, by omega, by decide⟩) ?_
        walk_at "rd"
        rw [Int.toNat_natCast, or_step]
        exact ⟨s3.trans s4, s4 _ _ h3, _, _, rfl⟩
      · subst hb
        walk_at "rd"
        have e6 : wrd (pre ++ [false]) = wrd pre := by rw [wrd_snoc]; simp
        exact ⟨s3.trans s4, s4 _ _ h3, _, _, by rw [e6]; rfl⟩
    · rintro σ' H3 ⟨s3, h3, x3, x4, rfl⟩
      walk_at "rd"
      refine go_append h3 (by rw [List.length_map]; unfold wrds; rw [List.length_map, List.length_range]; exact Nat.lt_of_le_of_lt (m := 100000) (by omega) (by decide)) ?_
      walk_at "rd"
      refine ⟨same_mut s3 n1, ?_, _, _, _, _, rfl⟩
      rw [upd_same]
      unfold wrds
      rw [List.range_succ]
      simp
  · rintro σ' H' ⟨s2, h2, x1, x2, x3, x4, rfl⟩
    walk_at "rd"
    refine go_tupOf (SqL.of h2) fun p2 H3 n3 s3 h3 => ?_
    exact hQ _ _ ⟨p2, rfl, s2.free n3, s2.trans s3, h3⟩

end
section
/-- one step of a reading; as many as go -/
local macro_rules | `(tactic| walk_at "st") => `(tactic| first
  | with_reducible refine go_seq ?_ | with_reducible refine go_asg ?_ | with_reducible refine go_gname ?_ | ((with_reducible refine go_var (v := ?vv) ?hv ?_); (case hv => rfl)) | with_reducible refine go_c ?_ | with_reducible refine go_op ?_
  | with_reducible refine go_add ?_ | with_reducible refine go_sub ?_ | with_reducible refine go_cb ?_ | with_reducible refine go_cons ?_ | with_reducible refine go_nil ?_ | with_reducible refine go_test ?_ | with_reducible refine go_isB ?_
  | with_reducible refine go_if ?_ | with_reducible refine go_lt ?_ | with_reducible refine go_le ?_ | with_reducible refine go_gt ?_ | with_reducible refine go_ge ?_ | with_reducible refine go_eqI ?_ | with_reducible refine go_neI ?_
  | with_reducible refine go_eq1 ?_ | with_reducible refine go_un ?_ | with_reducible refine go_neg ?_ | with_reducible refine go_tand ?_ | with_reducible refine go_tor ?_ | with_reducible refine go_tnot ?_ | with_reducible refine ifB_t ?_ | with_reducible refine ifB_f ?_ | with_reducible refine ifB_nf ?_ | with_reducible refine ifB_nt ?_
  | with_reducible refine go_andV ?_ | with_reducible refine go_orV ?_ | with_reducible refine go_notV ?_ | with_reducible refine go_chain ?_ | with_reducible refine go_tB ?_ | with_reducible refine go_nilt ?_
  | with_reducible refine go_ret ?_ | with_reducible refine go_retN ?_ | with_reducible refine go_next ?_ | with_reducible refine go_drop ?_ | with_reducible refine go_brk ?_ | with_reducible refine go_ct ?_
  | ((with_reducible refine go_aug (n := ?nn) ?ha ?_); (case ha => rfl)) | with_reducible refine go_augi ?_ | with_reducible refine go_lst ?_ | with_reducible refine go_tup ?_ | with_reducible refine go_pick ?_ | with_reducible refine go_picked ?_
  | with_reducible refine go_sl ?_ | with_reducible refine go_nopart ?_ | with_reducible refine go_part ?_ | with_reducible refine go_parti ?_ | with_reducible refine go_isN ?_ | with_reducible refine go_notN ?_ | with_reducible refine go_inS ?_ | with_reducible refine go_notInS ?_
  | with_reducible refine go_max2 ?_ | with_reducible refine go_min2 ?_ | with_reducible refine go_intB ?_ | with_reducible refine go_abs ?_ | with_reducible refine go_cl ?_ | with_reducible refine go_mt ?_ | with_reducible refine go_fld ?_
  | with_reducible refine go_bm ?_ | with_reducible refine go_bm0 ?_ | with_reducible refine ty_str ?_ | ((with_reducible refine ty_lst (xs := ?xx) ?ht ?_); (case ht => assumption))
  | with_reducible refine go_for ?_ | with_reducible refine go_iStr ?_ | with_reducible refine go_strK ?_ | with_reducible refine go_iList ?_ | with_reducible refine go_iEnS ?_ | with_reducible refine go_enSK ?_ | with_reducible refine go_iEnL ?_
  | with_reducible refine go_iR1 ?_ | with_reducible refine go_iR2 ?_ | with_reducible refine go_iR3 ?_ | with_reducible refine go_lc ?_
  | ((with_reducible refine go_div ?hc ?_); (case hc => decide)) | ((with_reducible refine go_mod ?hc ?_); (case hc => decide)) | ((with_reducible refine go_shr ?hc ?_); (case hc => decide)) | with_reducible refine go_and ?_ | with_reducible refine go_or ?_
  | ((with_reducible refine go_lenS ?hz ?_); (case hz => assumption)) | ((with_reducible refine go_lenL (xs := ?xx) ?hz ?_); (case hz => assumption)) | with_reducible refine go_sfld ?_ | with_reducible refine go_mk ?_ | with_reducible refine go_isiII ?_ | with_reducible refine go_isiIB ?_ | with_reducible refine go_isiSS ?_ | with_reducible refine go_gcons ?_ | with_reducible refine go_gnil ?_ | with_reducible refine go_and ?_ | with_reducible refine go_intS ?_ | with_reducible refine go_slT ?_ | with_reducible refine go_iTup ?_ | ((with_reducible refine go_mul ?hc ?_); (case hc => exact .inl ⟨by decide, by decide⟩)))
local macro_rules | `(tactic| walk_at "rd") => `(tactic| repeat walk_at "st")
local macro_rules | `(tactic| walk_at "go") => `(tactic| dsimp only [cxOf, Cx.nox, Cx.wish, L2.start, List.map, List.length_cons, List.length_nil, List.replicate, Nat.reduceAdd, Nat.reduceSub, List.cons_append, List.nil_append])
local macro_rules | `(tactic| walk_at "sz") => `(tactic| (refine Nat.le_trans (m := 100000) ?_ (by decide); first | (simp only [List.length_cons, List.length_nil, List.length_append, List.length_map]; omega) | omega))
/-- two lists of slots are the same -/
local macro_rules | `(tactic| walk_at "se") => `(tactic| ((try dsimp only [List.set]); (repeat' (first | rfl | refine congr (congrArg List.cons ?_) ?_ | refine congrArg (fun z => some (V.int z)) ?_)); (try omega)))
/-! ## class Bits -/
theorem kne {f g : Str} (h : ¬ f = g) : (f == g) = false := by simpa using h
theorem go_all {K : PySem.W.Frag} {H : Hp} {Q : VK} {p : Addr} {bs : List Bool} (h : H p = some (.lst (bs.map V.bl))) (q : Q (.bl (bs.all id)) H) : rAll K [.ref p] H Q := ⟨p, bs, rfl, SqL.of h, q⟩
theorem go_strI {H : Hp} {Q : VK} {b : Bool} (q : Q (.str (S [b])) H) : cStrI [.int (if b then 1 else 0)] H Q := by
  refine ⟨_, rfl, ?_, ?_⟩
  · cases b <;> decide
  · have e : (Str.ofString (toString (if b then (1 : Int) else 0))) = S [b] := by cases b <;> decide +kernel
    show Q (.str (Str.ofString (toString (if b then (1 : Int) else 0)))) H
    rw [e]
    exact q
theorem go_intS {H : Hp} {Q : VK} {b : Bool} (q : Q (.int (if b then 1 else 0)) H) : cIntS [.str (S [b])] H Q := by
  refine ⟨_, _, rfl, ?_, by rw [S_len]; show 1 ≤ 640; decide, q⟩
  cases b <;> decide +kernel
theorem range_get {l : List Bool} : (List.range l.length).map (fun i => l.getD i false) = l := by
  refine List.ext_getElem? fun i => ?_
  rw [List.getElem?_map]
  by_cases h : i < l.length
  · rw [List.getElem?_range h, List.getElem?_eq_getElem h]
    simp [List.getD, List.getElem?_eq_getElem h]
  · rw [List.getElem?_eq_none (by simpa using h), List.getElem?_eq_none (by omega)]
    rfl
theorem flat_ones (l : List Bool) : (l.map fun b => [b]).flatten = l := by
  induction l with
  | nil => rfl
  | cons b l ih => simp [ih]
theorem wk_tup {K : PySem.W.Frag} {a : Addr} {α : Type} {as : List α} {f : α → V} : Walk (Itt K a) as.length (fun H => SqT K H a (as.map f)) fun i H x H' => H' = H ∧ ∃ b, as[i]? = some b ∧ x = f b := by
  have w := walk_tup (K := K) (a := a) (xs := as.map f)
  rw [List.length_map] at w
  refine w.mono (fun H h => h) fun i H x H' hi _ ⟨e, h⟩ => ⟨e, as[i], List.getElem?_eq_getElem hi, ?_⟩
  rw [List.getElem?_map, List.getElem?_eq_getElem hi] at h
  exact (Option.some.inj h).symm
def bitsF (wp : Addr) (n : Nat) : List (Str × V) := [("kept", .ref wp), ("length", .int n)]
theorem bits_kept {wp : Addr} {n : Nat} : List.lookup ("kept" : Str) (bitsF wp n) = some (.ref wp) := lk_hit
theorem bits_length {wp : Addr} {n : Nat} : List.lookup ("length" : Str) (bitsF wp n) = some (.int n) := (lk_miss (kne (by decide +kernel))).trans lk_hit
theorem bits_no {wp : Addr} {n : Nat} {m : Str} (h1 : ¬ m = "kept") (h2 : ¬ m = "length") : List.lookup m (bitsF wp n) = none := (lk_miss (kne h1)).trans (lk_miss (kne h2))
def BitsAt (K : PySem.W.Frag) (H : Hp) (p : Addr) (l : List Bool) : Prop := ∃ dx wp, H p = some (.ins (He.ga K "Bits") dx (bitsF wp l.length)) ∧ H wp = some (.tup ((wrds l ((l.length + 31) / 32)).map V.int))
theorem BitsAt.mono {K : PySem.W.Frag} {H H' : Hp} {p : Addr} {l : List Bool} (h : BitsAt K H p l) (s : Same H H') : BitsAt K H' p l := let ⟨dx, wp, h1, h2⟩ := h; ⟨dx, wp, s _ _ h1, s _ _ h2⟩
def sp_Bits_init (K : PySem.W.Frag) : Sp := mkSp (α := Addr × List Bool) (fun a => [.ref a.1, .str (S a.2)]) (fun a H => (∃ dx, H a.1 = some (.ins (He.ga K "Bits") dx [])) ∧ a.2.length ≤ 20000)
  (fun a H v H' => v = .non ∧ Keep a.1 H H' ∧ BitsAt K H' a.1 a.2)
theorem sc_Bits_init : FnScope ["self", "text", "sign"] ["self", "text"] (defScope s_Bits_init) := ⟨rfl, rfl, rfl, by decide +kernel, rfl, by decide +kernel, by decide +kernel⟩
theorem ok_Bits_init {P : Program} {w : World} {K : PySem.W.Frag} {mg : Str → Option Value} {base : Heap} (T : Top K mg) (R_words_of : Rdy P w K mg base "words_of" 1 ["text"] (sp_words_of K)) : RdyI P w K mg base "Bits" 2 ["self", "text"] (sp_Bits_init K) := by
  obtain ⟨t_MOST_bits, c_MOST_bits⟩ := T.i_MOST_bits
  refine rdyI T.g_Bits T.k_Bits T.f_Bits_init sc_Bits_init (fun _ => rfl) (fun _ _ _ _ _ _ us hl => match us, hl with | [_, _], _ => rfl) fun cdv A outer s H a Q E hr hp hQ => ⟨_, (pss_cons (ps_if (PW.pt (pw_or (pt_not (pt_val (pe_callB call_isi rfl T.b_isinstance (by decide +kernel) (pa_cons (pv 1) (pa_cons (pe_bltn (v := .ty "str") rfl T.b_str (by decide +kernel) rfl) pa_nil))))) (pw_or (pt_cmpR (r := rGt) op_gt (pe_callB (r := cLenS) call_len_str rfl T.b_len (by decide +kernel) (pa_cons (pv 1) pa_nil)) (pe_glob (v := .int 20000) rfl c_MOST_bits ⟨_, rfl⟩) (nomark _)) (pw_or1 (pt_not (pt_val (pe_callB (cr_all rfl) rfl T.b_all (by decide +kernel) (pa_cons (pe_lc (own := [("sign", 2)]) (g := gName 2) (tt := tYes) rfl sc_Bits_init.nd (pi_str (pv 1)) (blkOk_by (own := [("sign", 2)]) (N := ["self", "text", "sign"]) (sc := defScope s_Bits_init) (by decide +kernel)) (fun _ _ _ _ _ => pg_name (i := 2) sc_Bits_init.nd rfl (Or.inl rfl)) (fun _ _ _ _ _ => by exact pts_nil) (fun _ _ _ _ _ => by exact (pe_cmpR op_inS (pv 2) pe_str (by rfl)))) pa_nil)))))))) (pss_one ps_never) pss_nil)
      (pss_cons (ps_fld (pv 0) (pe_f R_words_of (hr.mono (by decide)) (pa_cons (pv 1) pa_nil)) rfl)
      (pss_one (ps_fld (pv 0) (pe_callB (r := cLenS) call_len_str rfl T.b_len (by decide +kernel) (pa_cons (pv 1) pa_nil)) rfl)))), ?_⟩
  obtain ⟨p, l⟩ := a
  obtain ⟨⟨dx, hp⟩, hl⟩ := hp
  simp only at hp hl
  have hz : l.length ≤ sizeLine := Nat.le_trans hl (by decide)
  walk_at "go"
  walk_at "rd"
  rw [decide_eq_false (show ¬ (20000 : Int) < (l.length : Int) by omega)]
  walk_at "rd"
  refine lc_F (as := l) (f := fun b => .str (S [b])) (fun _ => true) (fun _ => .bl true) wk_str (fun _ _ => trivial) (Nat.lt_of_le_of_lt hl (by decide)) (fun _ => rfl) (fun _ _ _ _ => evT_yes) (fun b _ _ H' s' Q' q' => ?_) (fun L H1 n1 s1 h1 => ?_)
  · walk_at "rd"
    exact q' _ (Same.refl _)
  have e1 : (l.filter fun _ => true).map (fun _ => V.bl true) = (l.map fun _ => true).map V.bl := by rw [List.filter_eq_self.mpr (fun _ _ => rfl), List.map_map]; rfl
  rw [e1] at h1
  walk_at "rd"
  refine go_all h1 ?_
  have e2 : (l.map fun _ => true).all id = true := by simp
  rw [e2]
  walk_at "rd"
  refine ⟨l, rfl, hl, ?_⟩
  rintro v H2 ⟨wp, rfl, n2, s2, h2⟩
  walk_at "rd"
  have hp2 := s2 _ _ (s1 _ _ hp)
  refine go_setK hp2 T.c_Bits T.n_Bits_kept (by show 0 < 1000; decide) pf_nil fun H3 h3 k3 => ?_
  walk_at "rd"
  refine go_setK h3 T.c_Bits T.n_Bits_length (by show 1 < 1000; decide) (pf_miss (by decide +kernel)) fun H4 h4 k4 => ?_
  have wne : wp ≠ p := fun e => by
    rw [e, s1 _ _ hp] at n2
    cases n2
  exact hQ _ _ ⟨rfl, fun b o hb e => k4 b o hb (k3 b o hb (s2 _ _ (s1 _ _ e))), dx, wp, h4, k4 _ _ wne (k3 _ _ wne h2)⟩
def sp_Bits_size (K : PySem.W.Frag) : Sp := mkSp (α := Addr × List Bool) (fun a => [.ref a.1]) (fun a H => BitsAt K H a.1 a.2) (fun a H v H' => H' = H ∧ v = .int a.2.length)
theorem sc_Bits_size : FnScope ["self"] ["self"] (defScope s_Bits_size) := ⟨rfl, rfl, rfl, by decide +kernel, rfl, by decide +kernel, by decide +kernel⟩
theorem ok_Bits_size {P : Program} {w : World} {K : PySem.W.Frag} {mg : Str → Option Value} {base : Heap} (T : Top K mg)  : RdyM P w K mg base "Bits" "size" 1 ["self"] (sp_Bits_size K) := by
  refine rdyM T.c_Bits T.m_Bits_size T.f_Bits_size sc_Bits_size (fun _ => rfl) (fun _ _ _ _ _ _ us hl => match us, hl with | [_], _ => rfl) fun cdv A outer s H a Q E hr hp hQ => ⟨_, (pss_one (ps_ret (pe_fld (pv 0) rfl))), ?_⟩
  obtain ⟨p, l⟩ := a
  obtain ⟨dx, wp, h1, h2⟩ := hp
  walk_at "go"
  walk_at "rd"
  refine go_fldK h1 T.c_Bits T.n_Bits_length bits_length ?_
  exact hQ _ _ ⟨rfl, rfl⟩
def sp_Bits_words (K : PySem.W.Frag) : Sp := mkSp (α := Addr × List Bool) (fun a => [.ref a.1]) (fun a H => BitsAt K H a.1 a.2) (fun a H v H' => H' = H ∧ ∃ wp, v = .ref wp ∧ H wp = some (.tup ((wrds a.2 ((a.2.length + 31) / 32)).map V.int)))
theorem sc_Bits_words : FnScope ["self"] ["self"] (defScope s_Bits_words) := ⟨rfl, rfl, rfl, by decide +kernel, rfl, by decide +kernel, by decide +kernel⟩
theorem ok_Bits_words {P : Program} {w : World} {K : PySem.W.Frag} {mg : Str → Option Value} {base : Heap} (T : Top K mg)  : RdyM P w K mg base "Bits" "words" 1 ["self"] (sp_Bits_words K) := by
  refine rdyM T.c_Bits T.m_Bits_words T.f_Bits_words sc_Bits_words (fun _ => rfl) (fun _ _ _ _ _ _ us hl => match us, hl with | [_], _ => rfl) fun cdv A outer s H a Q E hr hp hQ => ⟨_, (pss_one (ps_ret (pe_fld (pv 0) rfl))), ?_⟩
  obtain ⟨p, l⟩ := a
  obtain ⟨dx, wp, h1, h2⟩ := hp
  walk_at "go"
  walk_at "rd"
  refine go_fldK h1 T.c_Bits T.n_Bits_kept bits_kept ?_
  exact hQ _ _ ⟨rfl, wp, rfl, h2⟩
def sp_Bits_need (_ : PySem.W.Frag) : Sp := mkSp (α := Addr × Int × Int) (fun a => [.ref a.1, .int a.2.1, .int a.2.2]) (fun a _ => 0 ≤ a.2.1 ∧ a.2.1 ≤ a.2.2) (fun _ H v H' => H' = H ∧ v = .non)
theorem sc_Bits_need : FnScope ["self", "place", "most"] ["self", "place", "most"] (defScope s_Bits_need) := ⟨rfl, rfl, rfl, by decide +kernel, rfl, by decide +kernel, by decide +kernel⟩
theorem ok_Bits_need {P : Program} {w : World} {K : PySem.W.Frag} {mg : Str → Option Value} {base : Heap} (T : Top K mg) (R_is_amid : Rdy P w K mg base "is_amid" 1 ["thing", "low", "high"] (sp_is_amid K)) : RdyM P w K mg base "Bits" "need" 2 ["self", "place", "most"] (sp_Bits_need K) := by
  refine rdyM T.c_Bits T.m_Bits_need T.f_Bits_need sc_Bits_need (fun _ => rfl) (fun _ _ _ _ _ _ us hl => match us, hl with | [_, _, _], _ => rfl) fun cdv A outer s H a Q E hr hp hQ => ⟨_, (pss_one (ps_if (pt_not (pt_val (pe_f R_is_amid (hr.mono (by decide)) (pa_cons (pv 1) (pa_cons pe_int (pa_cons (pv 2) pa_nil)))))) (pss_one ps_never) pss_nil)), ?_⟩
  obtain ⟨p, x, m⟩ := a
  obtain ⟨h1, h2⟩ := hp
  simp only at h1 h2
  walk_at "go"
  walk_at "rd"
  refine ⟨(x, 0, m), rfl, ⟨h1, h2⟩, ?_⟩
  rintro v H' ⟨eH, rfl⟩
  subst eH
  walk_at "rd"
  exact hQ _ _ ⟨rfl, rfl⟩
def sp_Bits_at (K : PySem.W.Frag) : Sp := mkSp (α := Addr × List Bool × Nat) (fun a => [.ref a.1, .int a.2.2]) (fun a H => BitsAt K H a.1 a.2.1 ∧ a.2.2 < a.2.1.length) (fun a H v H' => H' = H ∧ v = .int (if a.2.1.getD a.2.2 false then 1 else 0))
theorem sc_Bits_at : FnScope ["self", "place"] ["self", "place"] (defScope s_Bits_at) := ⟨rfl, rfl, rfl, by decide +kernel, rfl, by decide +kernel, by decide +kernel⟩
theorem ok_Bits_at {P : Program} {w : World} {K : PySem.W.Frag} {mg : Str → Option Value} {base : Heap} (T : Top K mg)  : RdyM P w K mg base "Bits" "at" 1 ["self", "place"] (sp_Bits_at K) := by
  obtain ⟨t_WORD_words, c_WORD_words⟩ := T.i_WORD_words
  refine rdyM T.c_Bits T.m_Bits_at T.f_Bits_at sc_Bits_at (fun _ => rfl) (fun _ _ _ _ _ _ us hl => match us, hl with | [_, _], _ => rfl) fun cdv A outer s H a Q E hr hp hQ => ⟨_, (pss_one (ps_ret (pe_op (r := rAndI) op_and (pe_op (r := rShrI) op_shr (pe_ix (r := rIxT K) ix_tup (pe_fld (pv 0) rfl) (pe_op (r := rDivI) op_fdiv (pv 1) (pe_glob (v := .int 32) rfl c_WORD_words ⟨_, rfl⟩)) (fun _ _ => rfl)) (pe_op (r := rModI) op_mod (pv 1) (pe_glob (v := .int 32) rfl c_WORD_words ⟨_, rfl⟩))) pe_int))), ?_⟩
  obtain ⟨p, l, i⟩ := a
  obtain ⟨⟨dx, wp, h1, h2⟩, hi⟩ := hp
  simp only at h1 h2 hi
  walk_at "go"
  walk_at "rd"
  refine go_fldK h1 T.c_Bits T.n_Bits_kept bits_kept ?_
  walk_at "rd"
  have e1 : (wrds l ((l.length + 31) / 32))[i / 32]? = some ((wrd ((l.drop (32 * (i / 32))).take 32) : Nat) : Int) := by
    unfold wrds
    rw [List.getElem?_map, List.getElem?_range (by omega)]
    rfl
  refine go_ixT h2 (at_i (i / 32) (by omega) (map_at e1)) ?_
  walk_at "rd"
  refine go_shr (by omega) ?_
  walk_at "rd"
  have e2 : ((i : Int) % 32).toNat = i % 32 := by omega
  rw [e2, bit_of (List.getElem?_eq_getElem hi)]
  refine hQ _ _ ⟨rfl, ?_⟩
  simp [List.getD, List.getElem?_eq_getElem hi]
section
variable {X : Cx} {K : PySem.W.Frag} {k : Nat} {x C m : Str} {ps : List Str} {sp : Sp} {p pos apos : Pos} {e o : Expr} {es : List Expr} {to : TE} {t : TA}
theorem pe_mK {pl : Sem Bool} (hK : X.K = K) (R : RdyM X.prog X.w K X.mg X.base C m k ps sp) (hr : Room k X.A) (ho : PE X o to) (ha : PA X (e :: es) t)
    (hst : starEach (e :: es) X.env = (false, eval e X.env) :: starEach es X.env := by rfl) (hpl : (backTo pos (starEach es X.env)).any (·.1) = false := by rfl)
    (ht : eval (.Call (.Attribute o m apos) (e :: es) [] pos) X.env = (do
      let ov ← eval o X.env
      standAt apos.atName
      let (f, first) ← holding [ov] (getMethod ov m pl)
      callWith pos f first (backTo pos (starEach (e :: es) X.env)) (backToKw pos (keywordEach [] X.env))) := by rfl) : PE X (.Call (.Attribute o m apos) (e :: es) [] pos) (tMt (He.ga K C) m sp to t) := by
  subst hK
  exact pe_m R hr ho ha hst hpl ht
theorem pe_m0K {pl : Sem Bool} (hK : X.K = K) (R : RdyM X.prog X.w K X.mg X.base C m k ps sp) (hr : Room k X.A) (ho : PE X o to)
    (ht : eval (.Call (.Attribute o m apos) [] [] pos) X.env = (do
      let ov ← eval o X.env
      standAt apos.atName
      let (f, first) ← holding [ov] (getMethod ov m pl)
      callWith pos f first (backTo pos (starEach [] X.env)) (backToKw pos (keywordEach [] X.env))) := by rfl) : PE X (.Call (.Attribute o m apos) [] [] pos) (tMt (He.ga K C) m sp to tNil) := by
  subst hK
  exact pe_m0 R hr ho ht
end
def sp_Bits_stretch (K : PySem.W.Frag) : Sp := mkSp (α := Addr × List Bool) (fun a => [.ref a.1, .int 0, .int a.2.length]) (fun a H => BitsAt K H a.1 a.2 ∧ a.2.length ≤ 20000) (fun a H v H' => Same H H' ∧ v = .str (S a.2))
theorem sc_Bits_stretch : FnScope ["self", "low", "high", "place"] ["self", "low", "high"] (defScope s_Bits_stretch) := ⟨rfl, rfl, rfl, by decide +kernel, rfl, by decide +kernel, by decide +kernel⟩
theorem ok_Bits_stretch {P : Program} {w : World} {K : PySem.W.Frag} {mg : Str → Option Value} {base : Heap} (T : Top K mg) (R_Bits_need : RdyM P w K mg base "Bits" "need" 2 ["self", "place", "most"] (sp_Bits_need K)) (R_Bits_at : RdyM P w K mg base "Bits" "at" 1 ["self", "place"] (sp_Bits_at K)) : RdyM P w K mg base "Bits" "stretch" 3 ["self", "low", "high"] (sp_Bits_stretch K) := by
  refine rdyM T.c_Bits T.m_Bits_stretch T.f_Bits_stretch sc_Bits_stretch (fun _ => rfl) (fun _ _ _ _ _ _ us hl => match us, hl with | [_, _, _], _ => rfl) fun cdv A outer s H a Q E hr hp hQ => ⟨_, (pss_cons (ps_expr (pe_m R_Bits_need (hr.mono (by decide)) (pv 0) (pa_cons (pv 1) (pa_cons (pe_fld (pv 0) rfl) pa_nil))))
      (pss_cons (ps_expr (pe_m R_Bits_need (hr.mono (by decide)) (pv 0) (pa_cons (pv 2) (pa_cons (pe_fld (pv 0) rfl) pa_nil))))
      (pss_cons (ps_if (pt_cmpR (r := rGt) op_gt (pv 1) (pv 2) (nomark _)) (pss_one ps_never) pss_nil)
      (pss_one (ps_ret (pe_bm PySem.F.plainAttrs_str PySem.F.slot_str_join PySem.F.type_str_join (r := mJoin K) mt_join pe_str (pa_cons (pe_lc (own := [("place", 3)]) (g := gName 3) (tt := tYes) rfl sc_Bits_stretch.nd (pi_range2 rfl T.b_range (pa_cons (pv 1) (pa_cons (pv 2) pa_nil))) (blkOk_by (own := [("place", 3)]) (N := ["self", "low", "high", "place"]) (sc := defScope s_Bits_stretch) (by decide +kernel)) (fun _ _ _ _ _ => pg_name (i := 3) sc_Bits_stretch.nd rfl (Or.inl rfl)) (fun _ _ _ _ _ => by exact pts_nil) (fun _ _ _ _ _ => by exact (pe_callTy (r := cStrI) call_str_int rfl T.b_str (by decide +kernel) (pa_cons (pe_mK rfl R_Bits_at (hr.mono (by decide)) (pv 0) (pa_cons (pv 3) pa_nil)) pa_nil)))) pa_nil))))))), ?_⟩
  obtain ⟨p, l⟩ := a
  obtain ⟨⟨dx, wp, h1, h2⟩, hl⟩ := hp
  simp only at h1 h2 hl
  walk_at "go"
  walk_at "rd"
  refine go_mtK h1 (bits_no (by decide +kernel) (by decide +kernel)) ?_
  walk_at "rd"
  refine go_fldK h1 T.c_Bits T.n_Bits_length bits_length ?_
  walk_at "rd"
  refine ⟨(p, 0, l.length), rfl, ⟨Int.le_refl _, by show (0:Int) ≤ (l.length : Int); omega⟩, ?_⟩
  rintro v H' ⟨eH, rfl⟩
  subst eH
  walk_at "rd"
  refine go_mtK h1 (bits_no (by decide +kernel) (by decide +kernel)) ?_
  walk_at "rd"
  refine go_fldK h1 T.c_Bits T.n_Bits_length bits_length ?_
  walk_at "rd"
  refine ⟨(p, l.length, l.length), rfl, ⟨by show (0:Int) ≤ (l.length : Int); omega, by show (l.length:Int) ≤ (l.length : Int); omega⟩, ?_⟩
  rintro v H2 ⟨eH, rfl⟩
  subst eH
  walk_at "rd"
  rw [decide_eq_false (show ¬ (l.length : Int) < (0 : Int) by omega)]
  walk_at "rd"
  refine go_rng2 (by omega) ?_
  have e0 : ((l.length : Int) - 0).toNat = l.length := by omega
  rw [e0]
  refine lc_F (as := List.range l.length) (f := fun (i : Nat) => .int (0 + (i : Int))) (fun _ => true) (fun i => vr [l.getD i false]) wk_rng (fun _ _ => trivial) (by rw [List.length_range]; exact Nat.lt_of_le_of_lt hl (by decide)) (fun _ => rfl) (fun _ _ _ _ => evT_yes)
    (fun i hi _ H' s' Q' q' => ?_) (fun L H1 n1 s1 h3 => ?_)
  · walk_at "rd"
    refine go_mtK (s' _ _ h1) (bits_no (by decide +kernel) (by decide +kernel)) ?_
    walk_at "rd"
    refine ⟨(p, l, i), by rw [Int.zero_add], ⟨⟨dx, wp, s' _ _ h1, s' _ _ h2⟩, List.mem_range.mp hi⟩, ?_⟩
    rintro v H2 ⟨eH, rfl⟩
    subst eH
    walk_at "rd"
    refine go_strI ?_
    exact q' _ (Same.refl _)
  have e1 : ((List.range l.length).filter fun _ => true).map (fun i => vr [l.getD i false]) = (l.map fun b => [b]).map vr := by
    rw [List.filter_eq_self.mpr (fun _ _ => rfl)]
    have e2 : (fun i => vr [l.getD i false]) = (fun b => vr [b]) ∘ fun i => l.getD i false := rfl
    rw [e2, ← List.map_map, range_get, List.map_map]
    rfl
  rw [e1] at h3
  walk_at "rd"
  refine go_join h3 (by rw [flat_ones]; omega) ?_
  rw [flat_ones]
  exact hQ _ _ ⟨s1, rfl⟩
def sp_Bits_text (K : PySem.W.Frag) : Sp := mkSp (α := Addr × List Bool) (fun a => [.ref a.1]) (fun a H => BitsAt K H a.1 a.2 ∧ a.2.length ≤ 20000) (fun a H v H' => Same H H' ∧ v = .str (S a.2))
theorem sc_Bits_text : FnScope ["self"] ["self"] (defScope s_Bits_text) := ⟨rfl, rfl, rfl, by decide +kernel, rfl, by decide +kernel, by decide +kernel⟩
theorem ok_Bits_text {P : Program} {w : World} {K : PySem.W.Frag} {mg : Str → Option Value} {base : Heap} (T : Top K mg) (R_Bits_stretch : RdyM P w K mg base "Bits" "stretch" 3 ["self", "low", "high"] (sp_Bits_stretch K)) : RdyM P w K mg base "Bits" "text" 4 ["self"] (sp_Bits_text K) := by
  refine rdyM T.c_Bits T.m_Bits_text T.f_Bits_text sc_Bits_text (fun _ => rfl) (fun _ _ _ _ _ _ us hl => match us, hl with | [_], _ => rfl) fun cdv A outer s H a Q E hr hp hQ => ⟨_, (pss_one (ps_ret (pe_m R_Bits_stretch (hr.mono (by decide)) (pv 0) (pa_cons pe_int (pa_cons (pe_fld (pv 0) rfl) pa_nil))))), ?_⟩
  obtain ⟨p, l⟩ := a
  obtain ⟨hB, hl⟩ := hp
  obtain ⟨dx, wp, h1, h2⟩ := id hB
  simp only at h1 h2 hl
  walk_at "go"
  walk_at "rd"
  refine go_mtK h1 (bits_no (by decide +kernel) (by decide +kernel)) ?_
  walk_at "rd"
  refine go_fldK h1 T.c_Bits T.n_Bits_length bits_length ?_
  walk_at "rd"
  refine ⟨(p, l), rfl, ⟨hB, hl⟩, ?_⟩
  rintro v H' ⟨s1, rfl⟩
  exact hQ _ _ ⟨s1, rfl⟩

end
section
/-- one step of a reading; as many as go -/
local macro_rules | `(tactic| walk_at "st") => `(tactic| first
  | with_reducible refine go_seq ?_ | with_reducible refine go_asg ?_ | with_reducible refine go_gname ?_ | ((with_reducible refine go_var (v := ?vv) ?hv ?_); (case hv => rfl)) | with_reducible refine go_c ?_ | with_reducible refine go_op ?_
  | with_reducible refine go_add ?_ | with_reducible refine go_sub ?_ | with_reducible refine go_cb ?_ | with_reducible refine go_cons ?_ | with_reducible refine go_nil ?_ | with_reducible refine go_test ?_ | with_reducible refine go_isB ?_
  | with_reducible refine go_if ?_ | with_reducible refine go_lt ?_ | with_reducible refine go_le ?_ | with_reducible refine go_gt ?_ | with_reducible refine go_ge ?_ | with_reducible refine go_eqI ?_ | with_reducible refine go_neI ?_
  | with_reducible refine go_eq1 ?_ | with_reducible refine go_un ?_ | with_reducible refine go_neg ?_ | with_reducible refine go_tand ?_ | with_reducible refine go_tor ?_ | with_reducible refine go_tnot ?_ | with_reducible refine ifB_t ?_ | with_reducible refine ifB_f ?_ | with_reducible refine ifB_nf ?_ | with_reducible refine ifB_nt ?_
  | with_reducible refine go_andV ?_ | with_reducible refine go_orV ?_ | with_reducible refine go_notV ?_ | with_reducible refine go_chain ?_ | with_reducible refine go_tB ?_ | with_reducible refine go_nilt ?_
  | with_reducible refine go_ret ?_ | with_reducible refine go_retN ?_ | with_reducible refine go_next ?_ | with_reducible refine go_drop ?_ | with_reducible refine go_brk ?_ | with_reducible refine go_ct ?_
  | ((with_reducible refine go_aug (n := ?nn) ?ha ?_); (case ha => rfl)) | with_reducible refine go_augi ?_ | with_reducible refine go_lst ?_ | with_reducible refine go_tup ?_ | with_reducible refine go_pick ?_ | with_reducible refine go_picked ?_
  | with_reducible refine go_sl ?_ | with_reducible refine go_nopart ?_ | with_reducible refine go_part ?_ | with_reducible refine go_parti ?_ | with_reducible refine go_isN ?_ | with_reducible refine go_notN ?_ | with_reducible refine go_inS ?_ | with_reducible refine go_notInS ?_
  | with_reducible refine go_max2 ?_ | with_reducible refine go_min2 ?_ | with_reducible refine go_intB ?_ | with_reducible refine go_abs ?_ | with_reducible refine go_cl ?_ | with_reducible refine go_mt ?_ | with_reducible refine go_fld ?_
  | with_reducible refine go_bm ?_ | with_reducible refine go_bm0 ?_ | with_reducible refine ty_str ?_ | ((with_reducible refine ty_lst (xs := ?xx) ?ht ?_); (case ht => assumption))
  | with_reducible refine go_for ?_ | with_reducible refine go_iStr ?_ | with_reducible refine go_strK ?_ | with_reducible refine go_iList ?_ | with_reducible refine go_iEnS ?_ | with_reducible refine go_enSK ?_ | with_reducible refine go_iEnL ?_
  | with_reducible refine go_iR1 ?_ | with_reducible refine go_iR2 ?_ | with_reducible refine go_iR3 ?_ | with_reducible refine go_lc ?_
  | ((with_reducible refine go_div ?hc ?_); (case hc => decide)) | ((with_reducible refine go_mod ?hc ?_); (case hc => decide)) | ((with_reducible refine go_shr ?hc ?_); (case hc => decide)) | with_reducible refine go_and ?_ | with_reducible refine go_or ?_
  | ((with_reducible refine go_lenS ?hz ?_); (case hz => assumption)) | ((with_reducible refine go_lenL (xs := ?xx) ?hz ?_); (case hz => assumption)) | with_reducible refine go_sfld ?_ | with_reducible refine go_mk ?_ | with_reducible refine go_isiII ?_ | with_reducible refine go_isiIB ?_ | with_reducible refine go_isiSS ?_ | with_reducible refine go_gcons ?_ | with_reducible refine go_gnil ?_ | with_reducible refine go_and ?_ | with_reducible refine go_intS ?_ | with_reducible refine go_slT ?_ | with_reducible refine go_iTup ?_ | ((with_reducible refine go_mul ?hc ?_); (case hc => exact .inl ⟨by decide, by decide⟩)))
local macro_rules | `(tactic| walk_at "rd") => `(tactic| repeat walk_at "st")
local macro_rules | `(tactic| walk_at "go") => `(tactic| dsimp only [cxOf, Cx.nox, Cx.wish, L2.start, List.map, List.length_cons, List.length_nil, List.replicate, Nat.reduceAdd, Nat.reduceSub, List.cons_append, List.nil_append])
local macro_rules | `(tactic| walk_at "sz") => `(tactic| (refine Nat.le_trans (m := 100000) ?_ (by decide); first | (simp only [List.length_cons, List.length_nil, List.length_append, List.length_map]; omega) | omega))
/-- two lists of slots are the same -/
local macro_rules | `(tactic| walk_at "se") => `(tactic| ((try dsimp only [List.set]); (repeat' (first | rfl | refine congr (congrArg List.cons ?_) ?_ | refine congrArg (fun z => some (V.int z)) ?_)); (try omega)))
/-! ## Counts, Pairs -/
def tupK (K : PySem.W.Frag) (x : V) (H : Hp) (R : It → Hp → Prop) : Prop := ∃ a, x = .ref a ∧ (∃ xs, SqT K H a xs) ∧ R (Itt K a) H
theorem go_iTup {K : PySem.W.Frag} {σ : St} {H : Hp} {te : TE} {R : It → Hp → Prop} (q : te σ H fun v H1 => tupK K v H1 R) : iTup K te σ H R := q
theorem go_tupK {K : PySem.W.Frag} {H : Hp} {R : It → Hp → Prop} {p : Addr} {xs : List V} (h : H p = some (.tup xs)) (q : R (Itt K p) H) : tupK K (.ref p) H R := ⟨p, rfl, ⟨xs, SqT.of h⟩, q⟩
theorem go_slA {K : PySem.W.Frag} {H : Hp} {Q : VK} {p : Addr} {xs : List V} {lo hi : Option Int} (h : H p = some (.tup xs)) (q : ∀ p' H2, Same H H2 → H2 p' = some (.tup (cutV xs lo hi)) → Q (.ref p') H2) : rSlA K (.ref p) lo hi H Q := by
  refine ⟨p, xs, rfl, SqT.of h, fun ⟨e1, e2⟩ => q p H (Same.refl H) ?_, fun _ p' hp => q p' _ (same_new hp) upd_same⟩
  unfold cutV
  rw [e1, e2]
  simpa using h
theorem keep_mut {x p : Addr} {H H' : Hp} {o : HO} (k : Keep x H H') (h : H p = none) : Keep x H (upd H' p o) := fun b u hb e => by
  rw [upd_ne (ne_of_none e h)]
  exact k b u hb e
theorem keep_trans {x : Addr} {H H1 H2 : Hp} (a : Keep x H H1) (b : Keep x H1 H2) : Keep x H H2 := fun c u hc e => b c u hc (a c u hc e)
theorem same_kp {x : Addr} {H H1 : Hp} (a : Same H H1) : Keep x H H1 := fun c u _ e => a c u e
theorem li_snoc {H : Hp} {a : Addr} {ns : List Int} {z : Int} : upd H a (.lst (ns.map V.int ++ [.int z])) a = some (LI (ns ++ [z])) := by
  rw [upd_same]
  show some (HO.lst (ns.map V.int ++ [.int z])) = some (HO.lst ((ns ++ [z]).map V.int))
  rw [List.map_append]
  rfl
theorem pf1 {f g1 : Str} {v v1 : V} (h1 : ¬ g1 = f) : putF f v [(g1, v1)] = [(g1, v1), (f, v)] := by rw [pf_miss h1, pf_nil]
theorem pf2 {f g1 g2 : Str} {v v1 v2 : V} (h1 : ¬ g1 = f) (h2 : ¬ g2 = f) : putF f v [(g1, v1), (g2, v2)] = [(g1, v1), (g2, v2), (f, v)] := by rw [pf_miss h1, pf1 h2]
theorem pf3 {f g1 g2 g3 : Str} {v v1 v2 v3 : V} (h1 : ¬ g1 = f) (h2 : ¬ g2 = f) (h3 : ¬ g3 = f) : putF f v [(g1, v1), (g2, v2), (g3, v3)] = [(g1, v1), (g2, v2), (g3, v3), (f, v)] := by rw [pf_miss h1, pf2 h2 h3]
def sp_Counts_init (K : PySem.W.Frag) : Sp := mkSp (α := Addr × Addr × List Bool) (fun a => [.ref a.1, .ref a.2.1]) (fun a H => (∃ dx, H a.1 = some (.ins (He.ga K "Counts") dx [])) ∧ BitsAt K H a.2.1 a.2.2 ∧ a.2.2.length ≤ 20000)
  (fun a H v H' => v = .non ∧ Keep a.1 H H')
theorem sc_Counts_init : FnScope ["self", "bits", "found", "start", "word"] ["self", "bits"] (defScope s_Counts_init) := ⟨rfl, rfl, rfl, by decide +kernel, rfl, by decide +kernel, by decide +kernel⟩
theorem ok_Counts_init {P : Program} {w : World} {K : PySem.W.Frag} {mg : Str → Option Value} {base : Heap} (T : Top K mg) (R_Bits_words : RdyM P w K mg base "Bits" "words" 1 ["self"] (sp_Bits_words K)) (R_Bits_size : RdyM P w K mg base "Bits" "size" 1 ["self"] (sp_Bits_size K)) (R_ones_in : Rdy P w K mg base "ones_in" 1 ["word"] (sp_ones_in K)) : RdyI P w K mg base "Counts" 2 ["self", "bits"] (sp_Counts_init K) := by
  obtain ⟨t_BLOCK, c_BLOCK⟩ := T.i_BLOCK
  refine rdyI T.g_Counts T.k_Counts T.f_Counts_init sc_Counts_init (fun _ => rfl) (fun _ _ _ _ _ _ us hl => match us, hl with | [_, _], _ => rfl) fun cdv A outer s H a Q E hr hp hQ => ⟨_, (pss_cons (ps_fld (pv 0) (pe_m0 R_Bits_words (hr.mono (by decide)) (pv 1)) rfl)
      (pss_cons (ps_fld (pv 0) (pe_m0 R_Bits_size (hr.mono (by decide)) (pv 1)) rfl)
      (pss_cons (ps_set (i := 2) sc_Counts_init.nd rfl (Or.inl rfl) (pe_lst (pa_cons pe_int pa_nil)))
      (pss_cons (ps_for PassesOwn.never rfl (pi_range3 rfl T.b_range (pa_cons pe_int (pa_cons (pe_callB (r := cLenL K) call_len_seq rfl T.b_len (by decide +kernel) (pa_cons (pe_fld (pv 0) rfl) pa_nil)) (pa_cons (pe_glob (v := .int 8) rfl c_BLOCK ⟨_, rfl⟩) pa_nil)))) (pg_name (i := 3) sc_Counts_init.nd rfl (Or.inl rfl)) (pss_one (ps_expr (pe_bm PySem.F.plainAttrs_list PySem.F.slot_list_append PySem.F.type_list_append mt_append (pv 2) (pa_cons (pe_op (r := rAddI) op_add (pe_ix (r := rIxL K) ix_list (pv 2) (pe_un (r := rNegI) un_neg pe_int) (fun _ _ => rfl)) (pe_callB (cr_sum rfl) rfl T.b_sum (by decide +kernel) (pa_cons (pe_lc (own := [("word", 4)]) (g := gName 4) (tt := tYes) rfl sc_Counts_init.nd (pi_tup (pe_slice sl_tupA (pe_fld (pv 0) rfl) (po_some (pv 3)) (po_some (pe_op (r := rAddI) op_add (pv 3) (pe_glob (v := .int 8) rfl c_BLOCK ⟨_, rfl⟩))))) (blkOk_by (own := [("word", 4)]) (N := ["self", "bits", "found", "start", "word"]) (sc := defScope s_Counts_init) (by decide +kernel)) (fun _ _ _ _ _ => pg_name (i := 4) sc_Counts_init.nd rfl (Or.inl rfl)) (fun _ _ _ _ _ => by exact pts_nil) (fun _ _ _ _ _ => by exact (pe_f R_ones_in (hr.mono (by decide)) (pa_cons (pv 4) pa_nil)))) pa_nil))) pa_nil)))))
      (pss_one (ps_fld (pv 0) (pe_callTy (r := cTupOf K) call_tuple_of rfl T.b_tuple (by decide +kernel) (pa_cons (pv 2) pa_nil)) rfl)))))), ?_⟩
  obtain ⟨p, bp, l⟩ := a
  obtain ⟨⟨dx, hp⟩, hB, hl⟩ := hp
  simp only at hp hB hl
  obtain ⟨bdx, wp, h1, h2⟩ := id hB
  have bne : bp ≠ p := fun e => by
    rw [e, hp] at h1
    simp [bitsF] at h1
  have wne : wp ≠ p := fun e => by
    rw [e, hp] at h2
    cases h2
  have hwl : ((wrds l ((l.length + 31) / 32)).map V.int).length = (l.length + 31) / 32 := by unfold wrds; simp
  walk_at "go"
  walk_at "rd"
  refine go_mtK h1 (bits_no (by decide +kernel) (by decide +kernel)) ?_
  walk_at "rd"
  refine ⟨(bp, l), rfl, hB, ?_⟩
  rintro v H' ⟨eH, wp', rfl, h2'⟩
  subst eH
  walk_at "rd"
  refine go_setK hp T.c_Counts T.n_Counts_kept (by show 0 < 1000; decide) pf_nil fun H3 h3 k3 => ?_
  walk_at "rd"
  have h4 := k3 _ _ bne h1
  have wne' : wp' ≠ p := fun e => by
    rw [e, hp] at h2'
    cases h2'
  have h5 := k3 _ _ wne' h2'
  refine go_mtK h4 (bits_no (by decide +kernel) (by decide +kernel)) ?_
  walk_at "rd"
  refine ⟨(bp, l), rfl, ⟨bdx, wp, h4, k3 _ _ wne h2⟩, ?_⟩
  rintro v H' ⟨eH, rfl⟩
  subst eH
  walk_at "rd"
  refine go_setK h3 T.c_Counts T.n_Counts_all_many (by show 1 < 1000; decide) (pf1 (by decide +kernel)) fun H4 h6 k4 => ?_
  have k5 := keep_trans k3 k4
  have h7 := k4 _ _ wne' h5
  walk_at "rd"
  refine go_newL (by walk_at "sz") fun fa H5 n5 s5 h8 => ?_
  walk_at "rd"
  refine go_fldK (s5 _ _ h6) T.c_Counts T.n_Counts_kept lk_hit ?_
  walk_at "rd"
  refine go_lenT (s5 _ _ h7) ?_
  walk_at "rd"
  rw [hwl]
  refine go_rng3u (n := (l.length + 31) / 32) (c := 8) (by decide) (by decide) (by omega) ?_
  refine loop_rngC (fun i σ' H' => Same H4 H' ∧ (∃ fs : List Int, H' fa = some (LI fs) ∧ fs ≠ [] ∧ fs.length ≤ i + 1) ∧ ∃ x1 x2, σ' = [some (.ref p), some (.ref bp), some (.ref fa), x1, x2]) ?_ ?_ ?_
  · exact ⟨s5, ⟨[0], h8, by simp, by simp⟩, none, none, rfl⟩
  · rintro i σ' H' hi ⟨s6, ⟨fs, h9, hne, hfl⟩, x1, x2, rfl⟩
    have hi' : i ≤ 20000 := by omega
    have e1 : (0 : Int) + (i : Int) * ((8 : Nat) : Int) = ((8 * i : Nat) : Int) := by omega
    rw [e1]
    walk_at "rd"
    obtain ⟨init, last, rfl⟩ : ∃ init last, fs = init ++ [last] := ⟨fs.dropLast, fs.getLast hne, (List.dropLast_concat_getLast hne).symm⟩
    refine go_ixL h9 (last_i (v := .int last) (by rw [List.map_append]; exact List.getLast?_concat)) ?_
    walk_at "rd"
    refine go_iTup ?_
    walk_at "rd"
    refine go_fldK (s6 _ _ h6) T.c_Counts T.n_Counts_kept lk_hit ?_
    walk_at "rd"
    refine go_slA (s6 _ _ h7) fun sp H6 s7 h10 => ?_
    have e2 : ((8 * i : Nat) : Int) + 8 = ((8 * i + 8 : Nat) : Int) := by omega
    rw [e2, cutV_nat, ← List.map_drop, ← List.map_take] at h10
    refine go_tupK h10 ?_
    refine lc_F (fun _ => true) (fun w => .int (onesW w)) wk_tup (fun H2 s2 => SqT.of (s2 _ _ h10)) (Nat.lt_of_le_of_lt (m := 20000) (by rw [List.length_take]; omega) (by decide)) (fun _ => rfl) (fun _ _ _ _ => evT_yes) (fun w _ _ H' s' Q' q' => ?_) (fun L H1 n1 s1 h1 => ?_)
    · walk_at "rd"
      refine ⟨w, rfl, trivial, ?_⟩
      rintro v H2 ⟨eH, rfl⟩
      subst eH
      exact q' _ (Same.refl _)
    have em : ∀ z : List Int, (z.filter fun _ => true).map (fun w => V.int (onesW w)) = (z.map onesW).map V.int := fun z => by rw [List.filter_eq_self.mpr (fun _ _ => rfl), List.map_map]; rfl
    rw [em] at h1
    walk_at "rd"
    refine go_sum h1 ?_
    walk_at "rd"
    have h11 := s1 _ _ (s7 _ _ h9)
    refine go_append h11 (by rw [List.length_map]; exact Nat.lt_of_le_of_lt hfl (Nat.lt_of_le_of_lt (m := 20001) (by omega) (by decide))) ?_
    walk_at "rd"
    refine ⟨same_mut ((s6.trans s7).trans s1) n5, ⟨_, li_snoc, by simp, by simp at hfl ⊢; omega⟩, _, _, rfl⟩
  · rintro σ' H' ⟨s6, ⟨fs, h9, hne, hfl⟩, x1, x2, rfl⟩
    walk_at "rd"
    refine go_tupOf (SqL.of h9) fun tp H6 n6 s7 h10 => ?_
    walk_at "rd"
    refine go_setK (s7 _ _ (s6 _ _ h6)) T.c_Counts T.n_Counts_heads (by show 2 < 1000; decide) (pf2 (by decide +kernel) (by decide +kernel)) fun H7 h11 k7 => ?_
    exact hQ _ _ ⟨rfl, keep_trans k5 (Same.keep (s6.trans s7) k7)⟩
def sp_ask_row (_ : PySem.W.Frag) : Sp := mkSp (α := List Bool) (fun a => [.str (S a)]) (fun a _ => Bal a 0 ∧ a.length ≤ 8192) (fun _ H v H' => v = .non ∧ Same H H')
theorem sc_ask_row : FnScope ["text", "height", "place", "sign"] ["text"] (defScope s_ask_row) := ⟨rfl, rfl, rfl, by decide +kernel, rfl, by decide +kernel, by decide +kernel⟩
theorem ok_ask_row {P : Program} {w : World} {K : PySem.W.Frag} {mg : Str → Option Value} {base : Heap} (T : Top K mg)  : Rdy P w K mg base "ask_row" 1 ["text"] (sp_ask_row K) := by
  obtain ⟨t_MOST_pairs, c_MOST_pairs⟩ := T.i_MOST_pairs
  refine rdy T.g_ask_row T.f_ask_row sc_ask_row (fun _ => rfl) (fun _ _ _ _ _ _ us hl => match us, hl with | [_], _ => rfl) fun cdv A outer s H a Q E hr hp hQ => ⟨_, (pss_cons (ps_if (pt_not (pt_val (pe_callB call_isi rfl T.b_isinstance (by decide +kernel) (pa_cons (pv 0) (pa_cons (pe_bltn (v := .ty "str") rfl T.b_str (by decide +kernel) rfl) pa_nil))))) (pss_one ps_never) pss_nil)
      (pss_cons (ps_set (i := 1) sc_ask_row.nd rfl (Or.inl rfl) pe_int)
      (pss_cons (ps_for PassesOwn.never rfl (pi_enumS rfl T.b_enumerate (pa_cons (pv 0) pa_nil)) (pg_tup rfl (pgs_cons (pg_name (i := 2) sc_ask_row.nd rfl (Or.inl rfl)) (pgs_cons (pg_name (i := 3) sc_ask_row.nd rfl (Or.inl rfl)) pgs_nil))) (pss_cons (ps_if (PW.pt (pw_or (pt_cmpR (r := rEq) op_eq (pv 2) (pe_glob (v := .int 8192) rfl c_MOST_pairs ⟨_, rfl⟩) (nomark _)) (pw_or1 (pt_cmpR op_notInS (pv 3) pe_str (by rfl))))) (pss_one ps_never) pss_nil)
      (pss_cons (ps_set (i := 1) sc_ask_row.nd rfl (Or.inl rfl) (pe_op (r := rSubI) op_sub (pe_op (r := rAddI) op_add (pv 1) (pe_op (r := rMulI) op_mul pe_int (pe_callTy (r := cIntS) call_int_str rfl T.b_int (by decide +kernel) (pa_cons (pv 3) pa_nil)))) pe_int))
      (pss_one (ps_if (pt_cmpR (r := rLt) op_lt (pv 1) pe_int (nomark _)) (pss_one ps_never) pss_nil)))))
      (pss_one (ps_if (pt_cmpR (r := rGt) op_gt (pv 1) pe_int (nomark _)) (pss_one ps_never) pss_nil))))), ?_⟩
  obtain ⟨hb, hl⟩ := hp
  have hz : a.length ≤ sizeLine := Nat.le_trans hl (by decide)
  have hb2 := bal_nn _ _ hb
  walk_at "go"
  walk_at "rd"
  refine loop_enS (l := a) (fun pre σ' H' => Same H H' ∧ ∃ x y, σ' = [some (.str (S a)), some (.int (ht pre)), x, y]) ?_ ?_ ?_
  · exact ⟨Same.refl H, none, none, rfl⟩
  · rintro pre b post σ' H' H2 e ⟨s1, x, y, rfl⟩ s2
    have hlen : pre.length < a.length := by rw [e]; simp
    have hn : Nn (pre ++ [b]) 0 := by
      have e2 : a = (pre ++ [b]) ++ post := by rw [e]; simp
      rw [e2, nn_app] at hb2
      exact hb2.1.1
    have hh := nn_ht _ _ hn
    have hh2 := ht_app pre [b]
    walk_at "rd"
    refine ifB_n (decide_eq_false (by omega)) ?_
    walk_at "rd"
    have e3 : ht pre + 2 * (if b then (1 : Int) else 0) - 1 = ht (pre ++ [b]) := by
      rw [hh2]
      cases b <;> simp [ht, bv] <;> omega
    rw [e3]
    refine ifB_n (decide_eq_false (by omega)) ?_
    walk_at "rd"
    exact ⟨s1.trans s2, _, _, rfl⟩
  · rintro σ' H' ⟨s1, x, y, rfl⟩
    have hh := nn_ht _ _ hb2.1
    rw [hb2.2] at hh
    walk_at "rd"
    refine ifB_n (decide_eq_false (by omega)) ?_
    walk_at "rd"
    exact hQ _ _ ⟨rfl, s1⟩
def sp_table_of (_ : PySem.W.Frag) : Sp := mkSp (α := List Bool) (fun a => [.str (S a)]) (fun a _ => a.length ≤ 20000) (fun _ H v H' => ∃ p, v = .ref p ∧ Same H H')
theorem sc_table_of : FnScope ["text", "found", "height", "start", "begin", "heights", "sign"] ["text"] (defScope s_table_of) := ⟨rfl, rfl, rfl, by decide +kernel, rfl, by decide +kernel, by decide +kernel⟩
theorem ok_table_of {P : Program} {w : World} {K : PySem.W.Frag} {mg : Str → Option Value} {base : Heap} (T : Top K mg)  : Rdy P w K mg base "table_of" 1 ["text"] (sp_table_of K) := by
  obtain ⟨t_STRETCH, c_STRETCH⟩ := T.i_STRETCH
  refine rdy T.g_table_of T.f_table_of sc_table_of (fun _ => rfl) (fun _ _ _ _ _ _ us hl => match us, hl with | [_], _ => rfl) fun cdv A outer s H a Q E hr hp hQ => ⟨_, (pss_cons (ps_set (i := 1) sc_table_of.nd rfl (Or.inl rfl) (pe_lst pa_nil))
      (pss_cons (ps_set (i := 2) sc_table_of.nd rfl (Or.inl rfl) pe_int)
      (pss_cons (ps_for PassesOwn.never rfl (pi_range3 rfl T.b_range (pa_cons pe_int (pa_cons (pe_callB (r := cLenS) call_len_str rfl T.b_len (by decide +kernel) (pa_cons (pv 0) pa_nil)) (pa_cons (pe_glob (v := .int 256) rfl c_STRETCH ⟨_, rfl⟩) pa_nil)))) (pg_name (i := 3) sc_table_of.nd rfl (Or.inl rfl)) (pss_cons (ps_set (i := 4) sc_table_of.nd rfl (Or.inl rfl) (pv 2))
      (pss_cons (ps_set (i := 5) sc_table_of.nd rfl (Or.inl rfl) (pe_lst pa_nil))
      (pss_cons (ps_for PassesOwn.never rfl (pi_str (pe_slice sl_str (pv 0) (po_some (pv 3)) (po_some (pe_op (r := rAddI) op_add (pv 3) (pe_glob (v := .int 256) rfl c_STRETCH ⟨_, rfl⟩))))) (pg_name (i := 6) sc_table_of.nd rfl (Or.inl rfl)) (pss_cons (ps_set (i := 2) sc_table_of.nd rfl (Or.inl rfl) (pe_op (r := rSubI) op_sub (pe_op (r := rAddI) op_add (pv 2) (pe_op (r := rMulI) op_mul pe_int (pe_callTy (r := cIntS) call_int_str rfl T.b_int (by decide +kernel) (pa_cons (pv 6) pa_nil)))) pe_int))
      (pss_one (ps_expr (pe_bm PySem.F.plainAttrs_list PySem.F.slot_list_append PySem.F.type_list_append mt_append (pv 5) (pa_cons (pv 2) pa_nil))))))
      (pss_one (ps_expr (pe_bm PySem.F.plainAttrs_list PySem.F.slot_list_append PySem.F.type_list_append mt_append (pv 1) (pa_cons (pe_tup (pa_cons (pv 4) (pa_cons (pe_callB (cr_min rfl) rfl T.b_min (by decide +kernel) (pa_cons (pv 5) pa_nil)) (pa_cons (pe_callB (cr_max rfl) rfl T.b_max (by decide +kernel) (pa_cons (pv 5) pa_nil)) pa_nil)))) pa_nil))))))))
      (pss_one (ps_ret (pe_callTy (r := cTupOf K) call_tuple_of rfl T.b_tuple (by decide +kernel) (pa_cons (pv 1) pa_nil))))))), ?_⟩
  replace hp : a.length ≤ 20000 := hp
  have hz : a.length ≤ sizeLine := Nat.le_trans hp (by decide)
  walk_at "go"
  walk_at "rd"
  refine go_newL (by walk_at "sz") fun p H1 n1 s1 h1 => ?_
  walk_at "rd"
  refine go_rng3u (n := a.length) (c := 256) (by decide) (by decide) (by omega) ?_
  refine loop_rngC (fun i σ' H' => Same H H' ∧ (∃ ts, H' p = some (.lst ts) ∧ ts.length ≤ i) ∧ ∃ h x1 x2 x3 x4, σ' = [some (.str (S a)), some (.ref p), some (.int h), x1, x2, x3, x4]) ?_ ?_ ?_
  · exact ⟨s1, ⟨[], h1, by simp⟩, 0, none, none, none, none, rfl⟩
  · rintro i σ' H' hi ⟨s2, ⟨ts, h2, hts⟩, h, x1, x2, x3, x4, rfl⟩
    have e1 : (0 : Int) + (i : Int) * ((256 : Nat) : Int) = ((256 * i : Nat) : Int) := by omega
    rw [e1]
    walk_at "rd"
    refine go_newL (by walk_at "sz") fun hpt H2 n3 s3 h3 => ?_
    have pne : hpt ≠ p := fun e => by
      rw [e, h2] at n3
      cases n3
    walk_at "rd"
    refine go_slS hz ?_
    have e2 : ((256 * i : Nat) : Int) + 256 = ((256 * i + 256 : Nat) : Int) := by omega
    rw [e2, sl_nat]
    walk_at "rd"
    refine loop_str (fun pre σ' H3 => Same H H3 ∧ H3 p = some (.lst ts) ∧ (∃ hs : List Int, H3 hpt = some (LI hs) ∧ hs.length = pre.length) ∧ ∃ (h b : Int) (x4 : Option V), σ' = [some (.str (S a)), some (.ref p), some (.int h), some (.int (256 * i : Nat)), some (.int b), some (.ref hpt), x4]) ?_ ?_ ?_
    · exact ⟨s2.trans s3, s3 _ _ h2, ⟨[], h3, rfl⟩, _, _, _, rfl⟩
    · rintro pre b post σ' H3 e ⟨s4, h4, ⟨hs, h5, hhs⟩, h', b0, x4, rfl⟩
      have hlen : pre.length ≤ 256 := by
        have h5 : pre.length ≤ ((a.drop (256 * i)).take (256 * i + 256 - 256 * i)).length := by rw [e]; simp
        rw [List.length_take] at h5
        omega
      walk_at "rd"
      refine go_append h5 (by rw [List.length_map, hhs]; exact Nat.lt_of_le_of_lt hlen (by decide)) ?_
      walk_at "rd"
      refine ⟨same_mut s4 (s2.free n3), ?_, ⟨hs ++ [h' + 2 * (if b = true then (1 : Int) else 0) - 1], ?_, by simp [hhs]⟩, _, _, _, rfl⟩
      · rw [upd_ne pne.symm]
        exact h4
      · exact li_snoc
    · rintro σ' H3 ⟨s4, h4, ⟨hs, h5, hhs⟩, h', b0, x4, rfl⟩
      have hpos : 0 < hs.length := by
        rw [hhs, List.length_take, List.length_drop]
        omega
      walk_at "rd"
      refine ⟨hpt, hs, rfl, SqL.of h5, hpos, fun m1 _ _ => ?_⟩
      walk_at "rd"
      refine ⟨hpt, hs, rfl, SqL.of h5, hpos, fun m2 _ _ => ?_⟩
      walk_at "rd"
      refine go_newT (by walk_at "sz") fun t H4 n5 s5 h6 => ?_
      walk_at "rd"
      refine go_append (s5 _ _ h4) (Nat.lt_of_le_of_lt (m := 20000) (by omega) (by decide)) ?_
      walk_at "rd"
      refine ⟨same_mut (s4.trans s5) n1, ⟨_, upd_same, by simp; omega⟩, _, _, _, _, _, rfl⟩
  · rintro σ' H' ⟨s2, ⟨ts, h2, hts⟩, h, x1, x2, x3, x4, rfl⟩
    walk_at "rd"
    refine go_tupOf (SqL.of h2) fun p2 H3 n3 s3 h3 => ?_
    exact hQ _ _ ⟨p2, rfl, s2.trans s3⟩
def PairsAt (K : PySem.W.Frag) (H : Hp) (p : Addr) (l : List Bool) : Prop := ∃ dx fs bp, H p = some (.ins (He.ga K "Pairs") dx fs) ∧ List.lookup ("bits" : Str) fs = some (.ref bp) ∧ List.lookup ("text" : Str) fs = none ∧ BitsAt K H bp l
def sp_Pairs_init (K : PySem.W.Frag) : Sp := mkSp (α := Addr × List Bool) (fun a => [.ref a.1, .str (S a.2)]) (fun a H => (∃ dx, H a.1 = some (.ins (He.ga K "Pairs") dx [])) ∧ Bal a.2 0 ∧ a.2.length ≤ 8192)
  (fun a H v H' => v = .non ∧ Keep a.1 H H' ∧ PairsAt K H' a.1 a.2)
theorem sc_Pairs_init : FnScope ["self", "text"] ["self", "text"] (defScope s_Pairs_init) := ⟨rfl, rfl, rfl, by decide +kernel, rfl, by decide +kernel, by decide +kernel⟩
theorem ok_Pairs_init {P : Program} {w : World} {K : PySem.W.Frag} {mg : Str → Option Value} {base : Heap} (T : Top K mg) (R_ask_row : Rdy P w K mg base "ask_row" 1 ["text"] (sp_ask_row K)) (R_Bits_init : RdyI P w K mg base "Bits" 2 ["self", "text"] (sp_Bits_init K)) (R_Bits_words : RdyM P w K mg base "Bits" "words" 1 ["self"] (sp_Bits_words K)) (R_Counts_init : RdyI P w K mg base "Counts" 2 ["self", "bits"] (sp_Counts_init K)) (R_table_of : Rdy P w K mg base "table_of" 1 ["text"] (sp_table_of K)) : RdyI P w K mg base "Pairs" 4 ["self", "text"] (sp_Pairs_init K) := by
  refine rdyI T.g_Pairs T.k_Pairs T.f_Pairs_init sc_Pairs_init (fun _ => rfl) (fun _ _ _ _ _ _ us hl => match us, hl with | [_, _], _ => rfl) fun cdv A outer s H a Q E hr hp hQ => ⟨_, (pss_cons (ps_expr (pe_f R_ask_row (hr.mono (by decide)) (pa_cons (pv 1) pa_nil)))
      (pss_cons (ps_fld (pv 0) (pe_i R_Bits_init (hr.mono (by decide)) (pa_cons (pv 1) pa_nil)) rfl)
      (pss_cons (ps_fld (pv 0) (pe_m0 R_Bits_words (hr.mono (by decide)) (pe_fld (pv 0) rfl)) rfl)
      (pss_cons (ps_fld (pv 0) (pe_i R_Counts_init (hr.mono (by decide)) (pa_cons (pe_fld (pv 0) rfl) pa_nil)) rfl)
      (pss_one (ps_fld (pv 0) (pe_f R_table_of (hr.mono (by decide)) (pa_cons (pv 1) pa_nil)) rfl)))))), ?_⟩
  obtain ⟨p, l⟩ := a
  obtain ⟨⟨dx, hp⟩, hb, hl⟩ := hp
  simp only at hp hb hl
  walk_at "go"
  walk_at "rd"
  refine ⟨l, rfl, ⟨hb, hl⟩, ?_⟩
  rintro v H1 ⟨rfl, s1⟩
  walk_at "rd"
  refine go_mkK fun bp bdx H2 n2 s2 h2 => ?_
  have hp2 := s2 _ _ (s1 _ _ hp)
  have bne : bp ≠ p := fun e => by
    rw [e, s1 _ _ hp] at n2
    cases n2
  refine ⟨(bp, l), rfl, ⟨⟨bdx, h2⟩, by show l.length ≤ 20000; omega⟩, ?_⟩
  rintro v H3 ⟨rfl, k3, hB⟩
  refine ⟨rfl, ?_⟩
  walk_at "rd"
  have hp3 := k3 _ _ bne.symm hp2
  refine go_setK hp3 T.c_Pairs T.n_Pairs_bits (by show 0 < 1000; decide) pf_nil fun H4 h4 k4 => ?_
  have k04 : Keep p H H4 := keep_trans (keep_trans (same_kp s1) (same_kp (Keep.made n2 s2 k3))) k4
  obtain ⟨ddx, wp, b1, b2⟩ := id hB
  have wne : wp ≠ p := fun e => by
    rw [e, hp3] at b2
    cases b2
  have hB4 : BitsAt K H4 bp l := ⟨ddx, wp, k4 _ _ bne b1, k4 _ _ wne b2⟩
  walk_at "rd"
  refine go_fldK h4 T.c_Pairs T.n_Pairs_bits lk_hit ?_
  walk_at "rd"
  refine go_mtK (k4 _ _ bne b1) (bits_no (by decide +kernel) (by decide +kernel)) ?_
  walk_at "rd"
  refine ⟨(bp, l), rfl, hB4, ?_⟩
  rintro v H' ⟨eH, wp', rfl, h2'⟩
  subst eH
  walk_at "rd"
  refine go_setK h4 T.c_Pairs T.n_Pairs_kept (by show 1 < 1000; decide) (pf1 (by decide +kernel)) fun H5 h5 k5 => ?_
  have hB5 : BitsAt K H5 bp l := ⟨ddx, wp, k5 _ _ bne (k4 _ _ bne b1), k5 _ _ wne (k4 _ _ wne b2)⟩
  walk_at "rd"
  refine go_fldK h5 T.c_Pairs T.n_Pairs_bits lk_hit ?_
  walk_at "rd"
  refine go_mkK fun cp cdx H6 n6 s6 h6 => ?_
  refine ⟨(cp, bp, l), rfl, ⟨⟨cdx, h6⟩, hB5.mono s6, by show l.length ≤ 20000; omega⟩, ?_⟩
  rintro v H7 ⟨rfl, k7⟩
  refine ⟨rfl, ?_⟩
  have s57 : Same H5 H7 := Keep.made n6 s6 k7
  walk_at "rd"
  refine go_setK (s57 _ _ h5) T.c_Pairs T.n_Pairs_counts (by show 2 < 1000; decide) (pf2 (by decide +kernel) (by decide +kernel)) fun H8 h8 k8 => ?_
  walk_at "rd"
  refine ⟨l, rfl, by show l.length ≤ 20000; omega, ?_⟩
  rintro v H9 ⟨tp, rfl, s9⟩
  walk_at "rd"
  refine go_setK (s9 _ _ h8) T.c_Pairs T.n_Pairs_laid (by show 3 < 1000; decide) (pf3 (by decide +kernel) (by decide +kernel) (by decide +kernel)) fun H10 h10 k10 => ?_
  have k5x : Keep p H5 H10 := keep_trans (keep_trans (same_kp s57) k8) (Same.keep s9 k10)
  refine hQ _ _ ⟨rfl, keep_trans (keep_trans k04 k5) k5x, dx, _, bp, h10, lk_hit, (lk_miss (kne (by decide +kernel))).trans ((lk_miss (kne (by decide +kernel))).trans ((lk_miss (kne (by decide +kernel))).trans ((lk_miss (kne (by decide +kernel))).trans lk_nil))), ddx, wp, ?_, ?_⟩
  · exact k5x _ _ bne (k5 _ _ bne (k4 _ _ bne b1))
  · exact k5x _ _ wne (k5 _ _ wne (k4 _ _ wne b2))
def sp_Pairs_text (K : PySem.W.Frag) : Sp := mkSp (α := Addr × List Bool) (fun a => [.ref a.1]) (fun a H => PairsAt K H a.1 a.2 ∧ a.2.length ≤ 20000) (fun a H v H' => Same H H' ∧ v = .str (S a.2))
theorem sc_Pairs_text : FnScope ["self"] ["self"] (defScope s_Pairs_text) := ⟨rfl, rfl, rfl, by decide +kernel, rfl, by decide +kernel, by decide +kernel⟩
theorem ok_Pairs_text {P : Program} {w : World} {K : PySem.W.Frag} {mg : Str → Option Value} {base : Heap} (T : Top K mg) (R_Bits_text : RdyM P w K mg base "Bits" "text" 4 ["self"] (sp_Bits_text K)) : RdyM P w K mg base "Pairs" "text" 5 ["self"] (sp_Pairs_text K) := by
  refine rdyM T.c_Pairs T.m_Pairs_text T.f_Pairs_text sc_Pairs_text (fun _ => rfl) (fun _ _ _ _ _ _ us hl => match us, hl with | [_], _ => rfl) fun cdv A outer s H a Q E hr hp hQ => ⟨_, (pss_one (ps_ret (pe_m0 R_Bits_text (hr.mono (by decide)) (pe_fld (pv 0) rfl)))), ?_⟩
  obtain ⟨p, l⟩ := a
  obtain ⟨⟨dx, fs, bp, h1, f1, f2, hB⟩, hl⟩ := hp
  simp only at h1 f1 f2 hB hl
  obtain ⟨ddx, wp, b1, b2⟩ := id hB
  walk_at "go"
  walk_at "rd"
  refine go_fldK h1 T.c_Pairs T.n_Pairs_bits f1 ?_
  walk_at "rd"
  refine go_mtK b1 (bits_no (by decide +kernel) (by decide +kernel)) ?_
  walk_at "rd"
  refine ⟨(bp, l), rfl, ⟨hB, hl⟩, ?_⟩
  rintro v H' ⟨s1, rfl⟩
  exact hQ _ _ ⟨s1, rfl⟩
def sp_elders_of (_ : PySem.W.Frag) : Sp := mkSp (α := List Bool) (fun a => [.str (S a)]) (fun a _ => Bal a 0 ∧ a.length ≤ 8000) (fun _ H v H' => ∃ p, v = .ref p ∧ Same H H')
theorem sc_elders_of : FnScope ["text", "row", "found", "way", "sign"] ["text"] (defScope s_elders_of) := ⟨rfl, rfl, rfl, by decide +kernel, rfl, by decide +kernel, by decide +kernel⟩
theorem ok_elders_of {P : Program} {w : World} {K : PySem.W.Frag} {mg : Str → Option Value} {base : Heap} (T : Top K mg) (R_Pairs_init : RdyI P w K mg base "Pairs" 4 ["self", "text"] (sp_Pairs_init K)) (R_Pairs_text : RdyM P w K mg base "Pairs" "text" 5 ["self"] (sp_Pairs_text K)) : Rdy P w K mg base "elders_of" 6 ["text"] (sp_elders_of K) := by
  obtain ⟨t_MOST_woods, c_MOST_woods⟩ := T.i_MOST_woods
  refine rdy T.g_elders_of T.f_elders_of sc_elders_of (fun _ => rfl) (fun _ _ _ _ _ _ us hl => match us, hl with | [_], _ => rfl) fun cdv A outer s H a Q E hr hp hQ => ⟨_, (pss_cons (ps_set (i := 1) sc_elders_of.nd rfl (Or.inl rfl) (pe_m0 R_Pairs_text (hr.mono (by decide)) (pe_i R_Pairs_init (hr.mono (by decide)) (pa_cons (pv 0) pa_nil))))
      (pss_cons (ps_if (pt_cmpR (r := rGt) op_gt (pe_callB (r := cLenS) call_len_str rfl T.b_len (by decide +kernel) (pa_cons (pv 1) pa_nil)) (pe_op (r := rMulI) op_mul pe_int (pe_glob (v := .int 4000) rfl c_MOST_woods ⟨_, rfl⟩)) (nomark _)) (pss_one ps_never) pss_nil)
      (pss_cons (ps_set (i := 2) sc_elders_of.nd rfl (Or.inl rfl) (pe_lst pa_nil))
      (pss_cons (ps_set (i := 3) sc_elders_of.nd rfl (Or.inl rfl) (pe_lst (pa_cons (pe_un (r := rNegI) un_neg pe_int) pa_nil)))
      (pss_cons (ps_for PassesOwn.never rfl (pi_str (pv 1)) (pg_name (i := 4) sc_elders_of.nd rfl (Or.inl rfl)) (pss_one (ps_if (pt_cmpR (r := rEq) op_eq (pv 4) pe_str (nomark _)) (pss_cons (ps_expr (pe_bm PySem.F.plainAttrs_list PySem.F.slot_list_append PySem.F.type_list_append mt_append (pv 2) (pa_cons (pe_ix (r := rIxL K) ix_list (pv 3) (pe_un (r := rNegI) un_neg pe_int) (fun _ _ => rfl)) pa_nil)))
      (pss_one (ps_expr (pe_bm PySem.F.plainAttrs_list PySem.F.slot_list_append PySem.F.type_list_append mt_append (pv 3) (pa_cons (pe_op (r := rSubI) op_sub (pe_callB (r := cLenL K) call_len_seq rfl T.b_len (by decide +kernel) (pa_cons (pv 2) pa_nil)) pe_int) pa_nil))))) (pss_one (ps_expr (pe_bm0 PySem.F.plainAttrs_list PySem.F.slot_list_pop PySem.F.type_list_pop mt_pop (pv 3)))))))
      (pss_one (ps_ret (pv 2)))))))), ?_⟩
  obtain ⟨hb, hl⟩ := hp
  have hz : a.length ≤ sizeLine := Nat.le_trans hl (by decide)
  have hb2 := bal_nn _ _ hb
  walk_at "go"
  walk_at "rd"
  refine go_mkK fun bp bdx H2 n2 s2 h2 => ?_
  refine ⟨(bp, a), rfl, ⟨⟨bdx, h2⟩, hb, by show a.length ≤ 8192; omega⟩, ?_⟩
  rintro v H3 ⟨rfl, k3, hP⟩
  refine ⟨rfl, ?_⟩
  obtain ⟨pdx, fs, bp', p1, p2, p3, p4⟩ := id hP
  have s03 : Same H H3 := Keep.made n2 s2 k3
  refine go_mtK p1 p3 ?_
  walk_at "rd"
  refine ⟨(bp, a), rfl, ⟨hP, by show a.length ≤ 20000; omega⟩, ?_⟩
  rintro v H4 ⟨s4, hv⟩
  replace hv : v = .str (S a) := hv
  subst hv
  walk_at "rd"
  refine ifB_n (decide_eq_false (by omega)) ?_
  walk_at "rd"
  refine go_newL (by walk_at "sz") fun fa H5 n5 s5 h5 => ?_
  walk_at "rd"
  refine go_newL (by walk_at "sz") fun wa H6 n6 s6 h6 => ?_
  have fne : fa ≠ wa := fun e => by
    rw [← e, h5] at n6
    cases n6
  have s06 : Same H H6 := ((s03.trans s4).trans s5).trans s6
  have nf : H fa = none := (s03.trans s4).free n5
  have nw : H wa = none := ((s03.trans s4).trans s5).free n6
  walk_at "rd"
  refine loop_str (fun pre σ' H' => Same H H' ∧ (∃ fs : List Int, H' fa = some (LI fs) ∧ fs.length ≤ pre.length) ∧ (∃ ws : List Int, H' wa = some (LI ws) ∧ ws.length = hgt pre 0 + 1) ∧ ∃ x, σ' = [some (.str (S a)), some (.str (S a)), some (.ref fa), some (.ref wa), x]) ?_ ?_ ?_
  · exact ⟨s06, ⟨[], s6 _ _ h5, by simp⟩, ⟨[-1], h6, rfl⟩, none, rfl⟩
  · rintro pre b post σ' H' e ⟨s7, ⟨fs, f1, f2⟩, ⟨ws, w1, w2⟩, x, rfl⟩
    have hlen : pre.length < a.length := by rw [e]; simp
    have hn : Nn (pre ++ [b]) 0 := by
      have e2 : a = (pre ++ [b]) ++ post := by rw [e]; simp
      rw [e2, nn_app] at hb2
      exact hb2.1.1
    have hn2 : Nn [b] (hgt pre 0) := ((nn_app _ _ _).mp hn).2
    have hg := hgt_app pre [b] 0
    obtain ⟨init, last, rfl⟩ : ∃ init last, ws = init ++ [last] := ⟨ws.dropLast, ws.getLast (fun z => by subst z; cases w2), (List.dropLast_concat_getLast _).symm⟩
    walk_at "rd"
    refine ifB_of (fun h => ?_) (fun h => ?_)
    · subst h
      walk_at "rd"
      refine go_ixL w1 (last_i (v := .int last) (by rw [List.map_append]; exact List.getLast?_concat)) ?_
      walk_at "rd"
      refine go_append f1 (by rw [List.length_map]; exact Nat.lt_of_le_of_lt (m := 8000) (by omega) (by decide)) ?_
      walk_at "rd"
      have w3 : upd H' fa (.lst (fs.map V.int ++ [.int last])) wa = some (LI (init ++ [last])) := by rw [upd_ne fne.symm]; exact w1
      refine ty_lst w3 ?_
      refine go_cons ?_
      walk_at "rd"
      refine go_lenL upd_same ?_
      walk_at "rd"
      refine go_append w3 (by rw [List.length_map, w2]; exact Nat.lt_of_le_of_lt (m := 8001) (by have := nn_ht pre 0 ((nn_app _ _ _).mp hn).1; have := ht_ones pre; have := ones_le pre; omega) (by decide)) ?_
      walk_at "rd"
      refine ⟨same_mut (same_mut s7 nf) nw, ⟨fs ++ [last], ?_, by simp; omega⟩, ⟨_, li_snoc, ?_⟩, _, rfl⟩
      · rw [upd_ne fne]
        exact li_snoc
      · rw [List.length_append, w2, hg]
        rfl
    · subst h
      walk_at "rd"
      refine go_pop (xs := init.map V.int) (y := .int last) (by rw [w1]; simp) ?_
      walk_at "rd"
      refine ⟨same_mut s7 nw, ⟨fs, ?_, by simp; omega⟩, ⟨init, upd_same, ?_⟩, _, rfl⟩
      · rw [upd_ne fne]
        exact f1
      · rw [hg]
        rw [List.length_append] at w2
        cases hq : hgt pre 0 with
        | zero =>
          rw [hq] at hn2
          exact hn2.elim
        | succ k =>
          rw [hq] at w2
          show init.length = k + 1 - 1 + 1
          simp at w2
          omega
  · rintro σ' H' ⟨s7, ⟨fs, f1, f2⟩, ⟨ws, w1, w2⟩, x, rfl⟩
    walk_at "rd"
    exact hQ _ _ ⟨fa, rfl, s7⟩

end
section
/-- one step of a reading; as many as go -/
local macro_rules | `(tactic| walk_at "st") => `(tactic| first
  | with_reducible refine go_seq ?_ | with_reducible refine go_asg ?_ | with_reducible refine go_gname ?_ | ((with_reducible refine go_var (v := ?vv) ?hv ?_); (case hv => rfl)) | with_reducible refine go_c ?_ | with_reducible refine go_op ?_
  | with_reducible refine go_add ?_ | with_reducible refine go_sub ?_ | with_reducible refine go_cb ?_ | with_reducible refine go_cons ?_ | with_reducible refine go_nil ?_ | with_reducible refine go_test ?_ | with_reducible refine go_isB ?_
  | with_reducible refine go_if ?_ | with_reducible refine go_lt ?_ | with_reducible refine go_le ?_ | with_reducible refine go_gt ?_ | with_reducible refine go_ge ?_ | with_reducible refine go_eqI ?_ | with_reducible refine go_neI ?_
  | with_reducible refine go_eq1 ?_ | with_reducible refine go_un ?_ | with_reducible refine go_neg ?_ | with_reducible refine go_tand ?_ | with_reducible refine go_tor ?_ | with_reducible refine go_tnot ?_ | with_reducible refine ifB_t ?_ | with_reducible refine ifB_f ?_ | with_reducible refine ifB_nf ?_ | with_reducible refine ifB_nt ?_
  | with_reducible refine go_andV ?_ | with_reducible refine go_orV ?_ | with_reducible refine go_notV ?_ | with_reducible refine go_chain ?_ | with_reducible refine go_tB ?_ | with_reducible refine go_nilt ?_
  | with_reducible refine go_ret ?_ | with_reducible refine go_retN ?_ | with_reducible refine go_next ?_ | with_reducible refine go_drop ?_ | with_reducible refine go_brk ?_ | with_reducible refine go_ct ?_
  | ((with_reducible refine go_aug (n := ?nn) ?ha ?_); (case ha => rfl)) | with_reducible refine go_augi ?_ | with_reducible refine go_lst ?_ | with_reducible refine go_tup ?_ | with_reducible refine go_pick ?_ | with_reducible refine go_picked ?_
  | with_reducible refine go_sl ?_ | with_reducible refine go_nopart ?_ | with_reducible refine go_part ?_ | with_reducible refine go_parti ?_ | with_reducible refine go_isN ?_ | with_reducible refine go_notN ?_ | with_reducible refine go_inS ?_ | with_reducible refine go_notInS ?_
  | with_reducible refine go_max2 ?_ | with_reducible refine go_min2 ?_ | with_reducible refine go_intB ?_ | with_reducible refine go_abs ?_ | with_reducible refine go_cl ?_ | with_reducible refine go_mt ?_ | with_reducible refine go_fld ?_
  | with_reducible refine go_bm ?_ | with_reducible refine go_bm0 ?_ | with_reducible refine ty_str ?_ | ((with_reducible refine ty_lst (xs := ?xx) ?ht ?_); (case ht => assumption))
  | with_reducible refine go_for ?_ | with_reducible refine go_iStr ?_ | with_reducible refine go_strK ?_ | with_reducible refine go_iList ?_ | with_reducible refine go_iEnS ?_ | with_reducible refine go_enSK ?_ | with_reducible refine go_iEnL ?_
  | with_reducible refine go_iR1 ?_ | with_reducible refine go_iR2 ?_ | with_reducible refine go_iR3 ?_ | with_reducible refine go_lc ?_
  | ((with_reducible refine go_div ?hc ?_); (case hc => decide)) | ((with_reducible refine go_mod ?hc ?_); (case hc => decide)) | ((with_reducible refine go_shr ?hc ?_); (case hc => decide)) | with_reducible refine go_and ?_ | with_reducible refine go_or ?_
  | ((with_reducible refine go_lenS ?hz ?_); (case hz => assumption)) | ((with_reducible refine go_lenL (xs := ?xx) ?hz ?_); (case hz => assumption)) | with_reducible refine go_sfld ?_ | with_reducible refine go_mk ?_ | with_reducible refine go_isiII ?_ | with_reducible refine go_isiIB ?_ | with_reducible refine go_isiSS ?_ | with_reducible refine go_gcons ?_ | with_reducible refine go_gnil ?_ | with_reducible refine go_and ?_ | with_reducible refine go_intS ?_ | with_reducible refine go_slT ?_ | with_reducible refine go_iTup ?_ | ((with_reducible refine go_mul ?hc ?_); (case hc => exact .inl ⟨by decide, by decide⟩)))
local macro_rules | `(tactic| walk_at "rd") => `(tactic| repeat walk_at "st")
local macro_rules | `(tactic| walk_at "go") => `(tactic| dsimp only [cxOf, Cx.nox, Cx.wish, L2.start, List.map, List.length_cons, List.length_nil, List.replicate, Nat.reduceAdd, Nat.reduceSub, List.cons_append, List.nil_append])
local macro_rules | `(tactic| walk_at "sz") => `(tactic| (refine Nat.le_trans (m := 100000) ?_ (by decide); first | (simp only [List.length_cons, List.length_nil, List.length_append, List.length_map]; omega) | omega))
/-- two lists of slots are the same -/
local macro_rules | `(tactic| walk_at "se") => `(tactic| ((try dsimp only [List.set]); (repeat' (first | rfl | refine congr (congrArg List.cons ?_) ?_ | refine congrArg (fun z => some (V.int z)) ?_)); (try omega)))
/-! ## rows.py, knots.py -/
def LN (st : List Nat) : HO := .lst (st.map fun (n : Nat) => V.int (n : Int))
theorem plain_LN (ns : List Nat) : (ns.map fun (n : Nat) => V.int (n : Int)).all plainV = true := by simp [plainV]
theorem take_ex {α : Type} {st : List α} {m : Nat} (h : m < st.length) : st.take (m + 1) = st.take m ++ [st[m]] := by rw [List.take_succ, List.getElem?_eq_getElem h]; rfl
theorem LN_snoc (st : List Nat) (n : Nat) : LN (st ++ [n]) = .lst ((st.map fun (n : Nat) => V.int (n : Int)) ++ [.int (n : Int)]) := by
  unfold LN
  rw [List.map_append]
  rfl
theorem go_mul0 {H : Hp} {Q : VK} {n : Nat} (hz : n ≤ 100000) (q : Q (.str (S (List.replicate n false))) H) : rMulS (.str "0") (.int (n : Int)) H Q := ⟨false, n, by rw [S_zero], rfl, hz, q⟩
def sp_is_number (_ : PySem.W.Frag) : Sp := mkSp (α := Int) (fun a => [.int a]) (fun a _ => 0 ≤ a) (fun _ H v H' => H' = H ∧ v = .bl true)
theorem sc_is_number : FnScope ["thing"] ["thing"] (defScope s_is_number) := ⟨rfl, rfl, rfl, by decide +kernel, rfl, by decide +kernel, by decide +kernel⟩
theorem ok_is_number {P : Program} {w : World} {K : PySem.W.Frag} {mg : Str → Option Value} {base : Heap} (T : Top K mg)  : Rdy P w K mg base "is_number" 1 ["thing"] (sp_is_number K) := by
  refine rdy T.g_is_number T.f_is_number sc_is_number (fun _ => rfl) (fun _ _ _ _ _ _ us hl => match us, hl with | [_], _ => rfl) fun cdv A outer s H a Q E hr hp hQ => ⟨_, (pss_one (ps_ret (pe_and (pe_callB call_isi rfl T.b_isinstance (by decide +kernel) (pa_cons (pv 0) (pa_cons (pe_bltn (v := .ty "int") rfl T.b_int (by decide +kernel) rfl) pa_nil))) (pe_and (pe_not (pe_callB call_isi rfl T.b_isinstance (by decide +kernel) (pa_cons (pv 0) (pa_cons (pe_bltn (v := .ty "bool") rfl T.b_bool (by decide +kernel) rfl) pa_nil)))) (pe_one (pe_cmpR (r := rGe) op_ge (pv 0) pe_int (nomark _))))))), ?_⟩
  replace hp : 0 ≤ a := hp
  walk_at "go"
  walk_at "rd"
  rw [decide_eq_true hp]
  exact hQ _ _ ⟨rfl, rfl⟩
section
variable {K : PySem.W.Frag} {H : Hp} {Q : VK} {p : Addr} {st : List Nat} {m : Nat}
theorem way_no (h : H p = some (LN (st.take 0))) (q : Q (.bl false) H) : nilK true (.ref p) H Q := ⟨p, [], rfl, h, rfl, q⟩
theorem way_yes (h : H p = some (LN (st.take (m + 1)))) (hm : m < st.length) (q : Q (.bl true) H) : nilK true (.ref p) H Q := by
  refine go_nilN h (plain_LN _) ?_
  have e : ((st.take (m + 1)).map fun (n : Nat) => V.int (n : Int)).isEmpty = false := by rw [take_ex hm, List.map_append]; simp
  rw [e]
  exact q
theorem way_no0 (h : H p = some (LN (st.take 0))) (q : Q (.bl true) H) : nilK false (.ref p) H Q := ⟨p, [], rfl, h, rfl, q⟩
theorem way_yes0 (h : H p = some (LN (st.take (m + 1)))) (hm : m < st.length) (q : Q (.bl false) H) : nilK false (.ref p) H Q := by
  refine go_nilE h (plain_LN _) ?_
  have e : ((st.take (m + 1)).map fun (n : Nat) => V.int (n : Int)).isEmpty = false := by rw [take_ex hm, List.map_append]; simp
  rw [e]
  exact q
end
/-- elders with what their row tells of them -/
structure Kn (es : List Int) (r : List Bool) (pre : List Int) (a : Int) (d : Nat) : Prop where
  at_d : (dep r 0)[pre.length]? = some d
  ns : NS (dep r 0) pre.length d a
theorem kn_of {es : List Int} {r : List Bool} {pre post : List Int} {a : Int} (h : Wood es r) (e : es = pre ++ a :: post) : ∃ d, Kn es r pre a d := by
  have hl : pre.length < (dep r 0).length := by rw [← h.2.1, e]; simp
  obtain ⟨e', h1, h2⟩ := h.2.2 pre.length _ (List.getElem?_eq_getElem hl)
  rw [e] at h1
  have : a = e' := by simpa using h1
  subst this
  exact ⟨_, List.getElem?_eq_getElem hl, h2⟩
/-- the stack ahead of the knot -/
structure Stk (r : List Bool) (k : Nat) (st : List Nat) : Prop where
  inv : StkInv ((dep r 0).take k) st
theorem Stk.nil (r : List Bool) : Stk r 0 [] := ⟨stk_nil⟩
theorem kn_stk {es : List Int} {r : List Bool} {pre : List Int} {a : Int} {d : Nat} {st : List Nat} (h : Kn es r pre a d) (s : Stk r pre.length st) :
    d ≤ st.length ∧ (d = 0 ∧ a = -1 ∨ ∃ d', d = d' + 1 ∧ ∃ s, st[d']? = some s ∧ a = (s : Int)) ∧ (∀ (m s : Nat), d ≤ m → st[m]? = some s → a ≠ (s : Int)) ∧ Stk r (pre.length + 1) (st.take d ++ [pre.length]) := by
  have hlt : pre.length < (dep r 0).length := (List.getElem?_eq_some_iff.mp h.at_d).1
  have hl : ((dep r 0).take pre.length).length = pre.length := by rw [List.length_take]; omega
  obtain ⟨h1, h2, h3⟩ := stk_elder (ds := dep r 0) s.inv (by rw [hl]; exact h.ns) (fun i hi => by rw [List.getElem?_take, if_pos (by omega)])
  refine ⟨h1, h2, h3, ⟨?_⟩⟩
  have q := stk_push s.inv h1
  rw [hl] at q
  rw [List.take_succ, h.at_d]
  exact q
/-- the stack by the test of the while -/
theorem way_top {st : List Nat} {m : Nat} (h : m < st.length) : atI ((st.take (m + 1)).map fun (n : Nat) => V.int (n : Int)) (-1) = some (.int (st[m] : Nat)) := by
  refine last_i ?_
  rw [take_ex h, List.map_append]
  exact List.getLast?_concat
theorem stk_len {r : List Bool} {k : Nat} {st : List Nat} (s : Stk r k st) : st.length ≤ k := by
  have h := s.inv.2
  have : st.length ≤ ((dep r 0).take k).length := by
    by_cases h0 : st.length = 0
    · omega
    · have hlt : st.length - 1 < st.length := by omega
      have inj : ∀ (j : Nat), j < st.length → ∃ s, st[j]? = some s ∧ j ≤ s := by
        intro j
        induction j with
        | zero => intro hj; exact ⟨_, List.getElem?_eq_getElem hj, Nat.zero_le _⟩
        | succ j ih =>
          intro hj
          obtain ⟨s1, a1, b1⟩ := ih (by omega)
          obtain ⟨p1, _⟩ := h _ _ a1
          obtain ⟨p2, q2⟩ := h _ _ (List.getElem?_eq_getElem hj)
          refine ⟨_, List.getElem?_eq_getElem hj, ?_⟩
          have n1 : s1 ≠ st[j + 1] := fun e => by
            rw [e] at p1
            rw [p1] at p2
            have := Option.some.inj p2
            omega
          have n2 : ¬ st[j + 1] < s1 := fun q => by have := q2 _ _ q p1; omega
          omega
      obtain ⟨s1, a1, b1⟩ := inj _ hlt
      have := (List.getElem?_eq_some_iff.mp (h _ _ a1).1).1
      omega
  rw [List.length_take] at this
  omega
def sp_look_at (_ : PySem.W.Frag) : Sp := mkSp (α := Addr × List Int × List Bool) (fun a => [.ref a.1]) (fun a H => H a.1 = some (LI a.2.1) ∧ Wood a.2.1 a.2.2 ∧ a.2.1.length ≤ 4000) (fun a H v H' => NewO (LI a.2.1) H v H')
theorem sc_look_at : FnScope ["elders", "way", "knot", "elder"] ["elders"] (defScope s_look_at) := ⟨rfl, rfl, rfl, by decide +kernel, rfl, by decide +kernel, by decide +kernel⟩
theorem ok_look_at {P : Program} {w : World} {K : PySem.W.Frag} {mg : Str → Option Value} {base : Heap} (T : Top K mg)  : Rdy P w K mg base "look_at" 1 ["elders"] (sp_look_at K) := by
  obtain ⟨t_MOST_woods, c_MOST_woods⟩ := T.i_MOST_woods
  refine rdy T.g_look_at T.f_look_at sc_look_at (fun _ => rfl) (fun _ _ _ _ _ _ us hl => match us, hl with | [_], _ => rfl) fun cdv A outer s H a Q E hr hp hQ => ⟨_, (pss_cons (ps_if (pt_not (pt_val (pe_callB call_isi rfl T.b_isinstance (by decide +kernel) (pa_cons (pv 0) (pa_cons (pe_bltn (v := .ty "list") rfl T.b_list (by decide +kernel) rfl) pa_nil))))) (pss_one ps_never) pss_nil)
      (pss_cons (ps_set (i := 1) sc_look_at.nd rfl (Or.inl rfl) (pe_lst pa_nil))
      (pss_cons (ps_for PassesOwn.never rfl (pi_enum rfl T.b_enumerate (pa_cons (pv 0) pa_nil)) (pg_tup rfl (pgs_cons (pg_name (i := 2) sc_look_at.nd rfl (Or.inl rfl)) (pgs_cons (pg_name (i := 3) sc_look_at.nd rfl (Or.inl rfl)) pgs_nil))) (pss_cons (ps_if (PW.pt (pw_or (pt_cmpR (r := rEq) op_eq (pv 2) (pe_glob (v := .int 4000) rfl c_MOST_woods ⟨_, rfl⟩) (nomark _)) (pw_or (pt_not (pt_val (pe_callB call_isi rfl T.b_isinstance (by decide +kernel) (pa_cons (pv 3) (pa_cons (pe_bltn (v := .ty "int") rfl T.b_int (by decide +kernel) rfl) pa_nil))))) (pw_or1 (pt_val (pe_callB call_isi rfl T.b_isinstance (by decide +kernel) (pa_cons (pv 3) (pa_cons (pe_bltn (v := .ty "bool") rfl T.b_bool (by decide +kernel) rfl) pa_nil)))))))) (pss_one ps_never) pss_nil)
      (pss_cons (ps_while PassesOwn.never (PW.pt (pw_and (pt_cmp (pc_nil (.inr ⟨rfl, rfl⟩) hr.units (pv 1))) (pw_and1 (pt_cmpR (r := rNe) op_ne (pe_ix (r := rIxL K) ix_list (pv 1) (pe_un (r := rNegI) un_neg pe_int) (fun _ _ => rfl)) (pv 3) (nomark _))))) (pss_one (ps_expr (pe_bm0 PySem.F.plainAttrs_list PySem.F.slot_list_pop PySem.F.type_list_pop mt_pop (pv 1)))))
      (pss_cons (ps_if (PW.pt (pw_and (pt_cmp (pc_nil (.inl ⟨rfl, rfl⟩) hr.units (pv 1))) (pw_and1 (pt_cmpR (r := rNe) op_ne (pv 3) (pe_un (r := rNegI) un_neg pe_int) (nomark _))))) (pss_one ps_never) pss_nil)
      (pss_one (ps_expr (pe_bm PySem.F.plainAttrs_list PySem.F.slot_list_append PySem.F.type_list_append mt_append (pv 1) (pa_cons (pv 2) pa_nil))))))))
      (pss_one (ps_ret (pe_callTy (r := cListOf K) call_list_of rfl T.b_list (by decide +kernel) (pa_cons (pv 0) pa_nil))))))), ?_⟩
  obtain ⟨p, es, r⟩ := a
  obtain ⟨hp, hw, hl⟩ := hp
  simp only at hp hw hl
  walk_at "go"
  walk_at "rd"
  refine go_isiLL hp ?_
  walk_at "rd"
  refine go_newL (by walk_at "sz") fun w H1 n1 s1 h1 => ?_
  walk_at "rd"
  refine go_enLK (SqL.of (s1 _ _ hp)) ?_
  refine loop_enL (as := es) (f := V.int) (fun pre σ' H' => Same H H' ∧ (∃ st, H' w = some (LN st) ∧ Stk r pre.length st) ∧ ∃ x y, σ' = [some (.ref p), some (.ref w), x, y]) ?_ (fun pre post σ' H' _ ⟨s2, _⟩ => SqL.of (s2 _ _ hp)) ?_ ?_
  · exact ⟨s1, ⟨[], h1, Stk.nil r⟩, none, none, rfl⟩
  · rintro pre a post σ' H' H2 e ⟨s2, ⟨st, h2, hst⟩, x, y, rfl⟩ s3
    obtain ⟨d, hk⟩ := kn_of hw e
    obtain ⟨hd, he, hn, hst2⟩ := kn_stk hk hst
    have hlen : pre.length < es.length := by rw [e]; simp
    have hsl := stk_len hst
    walk_at "rd"
    refine ifB_n (decide_eq_false (by omega)) ?_
    walk_at "rd"
    refine go_while2 (fun m σ' H' => d ≤ m ∧ m ≤ st.length ∧ Same H H' ∧ H' w = some (LN (st.take m)) ∧ σ' = [some (.ref p), some (.ref w), some (.int (pre.length : Nat)), some (.int a)]) (fun σ' H' => Same H H' ∧ H' w = some (LN (st.take d)) ∧ σ' = [some (.ref p), some (.ref w), some (.int (pre.length : Nat)), some (.int a)]) st.length ?_ ?_ ?_
    · exact ⟨hd, Nat.le_refl _, s2.trans s3, by rw [List.take_length]; exact s3 _ _ h2, rfl⟩
    · rintro D' hnx _ m σ' H' ⟨a1, a2, s4, h4, rfl⟩
      walk_at "rd"
      cases m with
      | zero =>
        refine way_no h4 ?_
        walk_at "rd"
        have e0 : d = 0 := by omega
        refine whK_f (hnx _ _ ⟨s4, by rw [e0]; exact h4, rfl⟩)
      | succ m =>
        have hm : m < st.length := a2
        refine way_yes h4 hm ?_
        walk_at "rd"
        refine go_ixL h4 (way_top hm) ?_
        walk_at "rd"
        by_cases hmd : d ≤ m
        · have := hn m _ hmd (List.getElem?_eq_getElem hm)
          rw [decide_eq_false (fun z => this z.symm)]
          refine whK_t ?_
          walk_at "rd"
          rw [take_ex hm, LN_snoc] at h4
          refine go_pop h4 ?_
          walk_at "rd"
          exact ⟨m, Nat.lt_succ_self m, hmd, by omega, same_mut s4 n1, upd_same, rfl⟩
        · have e1 : d = m + 1 := by omega
          have e2 : a = (st[m] : Nat) := by
            rcases he with ⟨q, _⟩ | ⟨d', q, s, q1, q2⟩
            · omega
            · have : d' = m := by omega
              subst this
              rw [List.getElem?_eq_getElem hm] at q1
              rw [q2, Option.some.inj q1]
          rw [decide_eq_true e2.symm]
          exact whK_f (hnx _ _ ⟨s4, by rw [e1]; exact h4, rfl⟩)
    · rintro σ' H3 ⟨s4, h4, rfl⟩
      have fin : Same H (upd H3 w (.lst (((st.take d).map fun (n : Nat) => V.int (n : Int)) ++ [.int (pre.length : Nat)]))) ∧ (∃ sx, upd H3 w (.lst (((st.take d).map fun (n : Nat) => V.int (n : Int)) ++ [.int (pre.length : Nat)])) w = some (LN sx) ∧ Stk r (pre ++ [a]).length sx) := by
        refine ⟨same_mut s4 n1, st.take d ++ [pre.length], ?_, by rw [List.length_append]; exact hst2⟩
        rw [upd_same]
        exact congrArg some (LN_snoc _ _).symm
      have hz : ((st.take d).map fun (n : Nat) => V.int (n : Int)).length < sizeLine := by
        rw [List.length_map, List.length_take]
        exact Nat.lt_of_le_of_lt (m := 4000) (by omega) (by decide)
      walk_at "rd"
      cases d with
      | zero =>
        refine way_no0 h4 ?_
        walk_at "rd"
        rw [decide_eq_true (show a = -1 by rcases he with ⟨_, q⟩ | ⟨d', q, _⟩ <;> omega)]
        walk_at "rd"
        refine go_append h4 hz ?_
        walk_at "rd"
        exact ⟨fin.1, fin.2, _, _, rfl⟩
      | succ d =>
        refine way_yes0 h4 hd ?_
        walk_at "rd"
        refine go_append h4 hz ?_
        walk_at "rd"
        exact ⟨fin.1, fin.2, _, _, rfl⟩
  · rintro σ' H' ⟨s2, ⟨st, h2, hst⟩, x, y, rfl⟩
    walk_at "rd"
    refine go_listOf (SqL.of (s2 _ _ hp)) fun p' H3 n3 s3 h3 => ?_
    exact hQ _ _ ⟨p', rfl, s2.free n3, s2.trans s3, h3⟩
theorem row_at {r : List Bool} {k d : Nat} (h : (dep r 0)[k]? = some d) : (dep r 0).drop k = d :: (dep r 0).drop (k + 1) := by
  obtain ⟨hl, e⟩ := List.getElem?_eq_some_iff.mp h
  rw [← e, List.getElem_cons_drop]
theorem flat_snoc {w : List Bool} {b : Bool} {H : Hp} {p : Addr} {z : Str} (e : z = S [b]) : upd H p (.lst ((w.map fun b => vr [b]) ++ [.str z])) p = some (.lst ((w ++ [b]).map fun b => vr [b])) := by
  rw [upd_same, List.map_append, e]
  rfl
def sp_row_of (_ : PySem.W.Frag) : Sp := mkSp (α := Addr × List Int × List Bool) (fun a => [.ref a.1]) (fun a H => H a.1 = some (LI a.2.1) ∧ Wood a.2.1 a.2.2 ∧ a.2.1.length ≤ 4000) (fun a H v H' => Same H H' ∧ v = .str (S a.2.2))
theorem sc_row_of : FnScope ["elders", "signs", "way", "knot", "elder"] ["elders"] (defScope s_row_of) := ⟨rfl, rfl, rfl, by decide +kernel, rfl, by decide +kernel, by decide +kernel⟩
theorem ok_row_of {P : Program} {w : World} {K : PySem.W.Frag} {mg : Str → Option Value} {base : Heap} (T : Top K mg)  : Rdy P w K mg base "row_of" 1 ["elders"] (sp_row_of K) := by
  refine rdy T.g_row_of T.f_row_of sc_row_of (fun _ => rfl) (fun _ _ _ _ _ _ us hl => match us, hl with | [_], _ => rfl) fun cdv A outer s H a Q E hr hp hQ => ⟨_, (pss_cons (ps_set (i := 1) sc_row_of.nd rfl (Or.inl rfl) (pe_lst pa_nil))
      (pss_cons (ps_set (i := 2) sc_row_of.nd rfl (Or.inl rfl) (pe_lst pa_nil))
      (pss_cons (ps_for PassesOwn.never rfl (pi_enum rfl T.b_enumerate (pa_cons (pv 0) pa_nil)) (pg_tup rfl (pgs_cons (pg_name (i := 3) sc_row_of.nd rfl (Or.inl rfl)) (pgs_cons (pg_name (i := 4) sc_row_of.nd rfl (Or.inl rfl)) pgs_nil))) (pss_cons (ps_while PassesOwn.never (PW.pt (pw_and (pt_cmp (pc_nil (.inr ⟨rfl, rfl⟩) hr.units (pv 2))) (pw_and1 (pt_cmpR (r := rNe) op_ne (pe_ix (r := rIxL K) ix_list (pv 2) (pe_un (r := rNegI) un_neg pe_int) (fun _ _ => rfl)) (pv 4) (nomark _))))) (pss_cons (ps_expr (pe_bm0 PySem.F.plainAttrs_list PySem.F.slot_list_pop PySem.F.type_list_pop mt_pop (pv 2)))
      (pss_one (ps_expr (pe_bm PySem.F.plainAttrs_list PySem.F.slot_list_append PySem.F.type_list_append mt_append (pv 1) (pa_cons pe_str pa_nil))))))
      (pss_cons (ps_expr (pe_bm PySem.F.plainAttrs_list PySem.F.slot_list_append PySem.F.type_list_append mt_append (pv 2) (pa_cons (pv 3) pa_nil)))
      (pss_one (ps_expr (pe_bm PySem.F.plainAttrs_list PySem.F.slot_list_append PySem.F.type_list_append mt_append (pv 1) (pa_cons pe_str pa_nil)))))))
      (pss_one (ps_ret (pe_op op_addS (pe_bm PySem.F.plainAttrs_str PySem.F.slot_str_join PySem.F.type_str_join (r := mJoin K) mt_join pe_str (pa_cons (pv 1) pa_nil)) (pe_op op_mulS pe_str (pe_callB (r := cLenL K) call_len_seq rfl T.b_len (by decide +kernel) (pa_cons (pv 2) pa_nil))))))))), ?_⟩
  obtain ⟨p, es, r⟩ := a
  obtain ⟨hp, hw, hl⟩ := hp
  simp only at hp hw hl
  obtain ⟨wl1, wl2⟩ := wood_len hw
  walk_at "go"
  walk_at "rd"
  refine go_newL (by walk_at "sz") fun g H0 n0 s0 h0 => ?_
  walk_at "rd"
  refine go_newL (by walk_at "sz") fun w H1 n1 s1 h1 => ?_
  have gw : g ≠ w := fun e => by
    rw [← e, h0] at n1
    cases n1
  have nw : H w = none := s0.free n1
  walk_at "rd"
  refine go_enLK (SqL.of (s1 _ _ (s0 _ _ hp))) ?_
  refine loop_enL (as := es) (f := V.int) (fun pre σ' H' => Same H H' ∧ (∃ st acc, H' w = some (LN st) ∧ Stk r pre.length st ∧ H' g = some (.lst (acc.map fun b => vr [b])) ∧ acc ++ rowFrom ((dep r 0).drop pre.length) st.length = r) ∧ ∃ x y, σ' = [some (.ref p), some (.ref g), some (.ref w), x, y]) ?_ (fun pre post σ' H' _ ⟨s2, _⟩ => SqL.of (s2 _ _ hp)) ?_ ?_
  · exact ⟨s0.trans s1, ⟨[], [], h1, Stk.nil r, s1 _ _ h0, (row_dep r 0 hw.1).1⟩, none, none, rfl⟩
  · rintro pre a post σ' H' H2 e ⟨s2, ⟨st, acc, h2, hst, g2, er⟩, x, y, rfl⟩ s3
    obtain ⟨d, hk⟩ := kn_of hw e
    obtain ⟨hd, he, hn, hst2⟩ := kn_stk hk hst
    have hlen : pre.length < es.length := by rw [e]; simp
    have hsl := stk_len hst
    have hda := row_at hk.at_d
    walk_at "rd"
    refine go_while2 (fun m σ' H' => d ≤ m ∧ m ≤ st.length ∧ Same H H' ∧ H' w = some (LN (st.take m)) ∧ (∃ acc, H' g = some (.lst (acc.map fun b => vr [b])) ∧ acc ++ rowFrom ((dep r 0).drop pre.length) m = r) ∧ σ' = [some (.ref p), some (.ref g), some (.ref w), some (.int (pre.length : Nat)), some (.int a)])
      (fun σ' H' => Same H H' ∧ H' w = some (LN (st.take d)) ∧ (∃ acc, H' g = some (.lst (acc.map fun b => vr [b])) ∧ acc ++ rowFrom ((dep r 0).drop pre.length) d = r) ∧ σ' = [some (.ref p), some (.ref g), some (.ref w), some (.int (pre.length : Nat)), some (.int a)]) st.length ?_ ?_ ?_
    · exact ⟨hd, Nat.le_refl _, s2.trans s3, by rw [List.take_length]; exact s3 _ _ h2, ⟨acc, s3 _ _ g2, er⟩, rfl⟩
    · rintro D' hnx _ m σ' H' ⟨a1, a2, s4, h4, ⟨acc, g4, er⟩, rfl⟩
      walk_at "rd"
      cases m with
      | zero =>
        refine way_no h4 ?_
        walk_at "rd"
        have e0 : d = 0 := by omega
        refine whK_f (hnx _ _ ⟨s4, by rw [e0]; exact h4, ⟨acc, g4, by rw [e0]; exact er⟩, rfl⟩)
      | succ m =>
        have hm : m < st.length := a2
        refine way_yes h4 hm ?_
        walk_at "rd"
        refine go_ixL h4 (way_top hm) ?_
        walk_at "rd"
        by_cases hmd : d ≤ m
        · have := hn m _ hmd (List.getElem?_eq_getElem hm)
          rw [decide_eq_false (fun z => this z.symm)]
          refine whK_t ?_
          walk_at "rd"
          rw [take_ex hm, LN_snoc] at h4
          refine go_pop h4 ?_
          walk_at "rd"
          have hal : acc.length ≤ r.length := by rw [← er]; simp
          refine ty_lst (by rw [upd_ne gw]; exact g4) ?_
          walk_at "rd"
          refine go_append (by rw [upd_ne gw]; exact g4) (by rw [List.length_map]; exact Nat.lt_of_le_of_lt (m := 8000) (by omega) (by decide)) ?_
          walk_at "rd"
          refine ⟨m, Nat.lt_succ_self m, hmd, by omega, same_mut (same_mut s4 nw) n0, by rw [upd_ne gw.symm, upd_same]; rfl, ⟨acc ++ [false], flat_snoc S_zero, ?_⟩, rfl⟩
          rw [hda] at er ⊢
          rw [row_drop (fun d' q => by have : d = d' := by simpa using q
                                       omega)] at er
          rw [List.append_assoc]
          exact er
        · have e1 : d = m + 1 := by omega
          have e2 : a = (st[m] : Nat) := by
            rcases he with ⟨q, _⟩ | ⟨d', q, s, q1, q2⟩
            · omega
            · have : d' = m := by omega
              subst this
              rw [List.getElem?_eq_getElem hm] at q1
              rw [q2, Option.some.inj q1]
          rw [decide_eq_true e2.symm]
          exact whK_f (hnx _ _ ⟨s4, by rw [e1]; exact h4, ⟨acc, g4, by rw [e1]; exact er⟩, rfl⟩)
    · rintro σ' H3 ⟨s4, h4, ⟨acc, g4, er⟩, rfl⟩
      have hal : acc.length ≤ r.length := by rw [← er]; simp
      walk_at "rd"
      refine go_append h4 (by rw [List.length_map, List.length_take]; exact Nat.lt_of_le_of_lt (m := 4000) (by omega) (by decide)) ?_
      walk_at "rd"
      refine ty_lst (by rw [upd_ne gw]; exact g4) ?_
      walk_at "rd"
      refine go_append (by rw [upd_ne gw]; exact g4) (by rw [List.length_map]; exact Nat.lt_of_le_of_lt (m := 8000) (by omega) (by decide)) ?_
      walk_at "rd"
      refine ⟨same_mut (same_mut s4 nw) n0, ⟨st.take d ++ [pre.length], acc ++ [true], by rw [upd_ne gw.symm, upd_same]; exact congrArg some (LN_snoc _ _).symm, by rw [List.length_append]; exact hst2, flat_snoc S_one, ?_⟩, _, _, rfl⟩
      rw [hda] at er
      have e5 : rowFrom (d :: (dep r 0).drop (pre.length + 1)) d = true :: rowFrom ((dep r 0).drop (pre.length + 1)) (d + 1) := by
        show List.replicate (d - d) false ++ _ = _
        rw [Nat.sub_self]
        rfl
      rw [e5] at er
      have e6 : (st.take d ++ [pre.length]).length = d + 1 := by
        rw [List.length_append, List.length_take]
        show _ + 1 = _
        omega
      rw [e6, List.length_append, List.append_assoc]
      exact er
  · rintro σ' H' ⟨s2, ⟨st, acc, h2, hst, g2, er⟩, x, y, rfl⟩
    have hsl := stk_len hst
    have hal : acc.length ≤ r.length := by rw [← er]; simp
    walk_at "rd"
    refine go_join (ps := acc.map fun b => [b]) (by rw [g2]; show _ = some (HO.lst ((acc.map fun b => [b]).map vr)); rw [List.map_map]; rfl) (by rw [flat_ones]; omega) ?_
    rw [flat_ones]
    walk_at "rd"
    have e7 : (dep r 0).drop es.length = [] := List.drop_eq_nil_of_le (by rw [hw.2.1]; exact Nat.le_refl _)
    rw [e7] at er
    rw [List.length_map]
    refine go_mul0 (by omega) ?_
    refine go_addS (by rw [List.length_replicate]; exact Nat.le_trans (m := 12000) (by omega) (by decide)) ?_
    refine hQ _ _ ⟨s2, ?_⟩
    show V.str (S (acc ++ List.replicate st.length false)) = V.str (S r)
    rw [← er]
    rfl

end
/-! ## heights by places -/
def hh (r : List Bool) (j : Nat) : Int := ht (r.take j)
theorem hh_zero (r : List Bool) : hh r 0 = 0 := rfl
theorem hh_succ {r : List Bool} {j : Nat} {b : Bool} (h : r[j]? = some b) : hh r (j + 1) = hh r j + (if b then 1 else -1) := by
  unfold hh
  rw [List.take_succ, h, ht_app]
  cases b <;> simp [ht, bv]
theorem hh_app {A R : List Bool} : hh (A ++ R) A.length = ht A := by unfold hh; simp
theorem hh_more {A R : List Bool} (m : Nat) : hh (A ++ R) (A.length + m) = ht A + hh R m := by
  unfold hh
  rw [List.take_append]
  rw [List.take_of_length_le (by omega), ht_app]
  congr 3
  omega
section
variable {ps : List (List Bool)} {i : Nat} {x : List Bool}
theorem piece_drop (h : ps[i]? = some x) : ps.flatten.drop (cum ps i) = x ++ (ps.drop (i + 1)).flatten := by
  obtain ⟨hl, e⟩ := List.getElem?_eq_some_iff.mp h
  rw [← flat_drop, List.drop_eq_getElem_cons hl, e]
  rfl
theorem piece_at (h : ps[i]? = some x) {m : Nat} (hm : m < x.length) : ps.flatten[cum ps i + m]? = x[m]? := by
  rw [← List.getElem?_drop, piece_drop h, List.getElem?_append_left hm]
theorem hh_piece (h : ps[i]? = some x) {m : Nat} (hm : m ≤ x.length) : hh ps.flatten (cum ps i + m) = hh ps.flatten (cum ps i) + ht (x.take m) := by
  unfold hh
  rw [List.take_add, ht_app, piece_drop h, List.take_append_of_le_length hm]
theorem hh_next (h : ps[i]? = some x) : hh ps.flatten (cum ps (i + 1)) = hh ps.flatten (cum ps i) + ht x := by
  rw [cum_succ h, hh_piece h (Nat.le_refl _), List.take_length]
theorem ones_piece (h : ps[i]? = some x) {m : Nat} (hm : m ≤ x.length) : ones (ps.flatten.take (cum ps i + m)) = ones (ps.flatten.take (cum ps i)) + ones (x.take m) := by
  rw [List.take_add, ones_app, piece_drop h, List.take_append_of_le_length hm]
theorem ones_next (h : ps[i]? = some x) : ones (ps.flatten.take (cum ps (i + 1))) = ones (ps.flatten.take (cum ps i)) + ones x := by
  rw [cum_succ h, ones_piece h (Nat.le_refl _), List.take_length]
theorem cum_in (h : i < ps.length) : ∃ x, ps[i]? = some x := ⟨_, List.getElem?_eq_getElem h⟩
theorem cum_lt_len {z : Nat} (hz : z < ps.flatten.length) (h : cum ps i ≤ z) : i < ps.length := by
  by_cases q : i < ps.length
  · exact q
  · have e : cum ps i = ps.flatten.length := by
      unfold cum
      rw [List.take_of_length_le (by omega)]
    omega
end
theorem ones_mono (r : List Bool) {i j : Nat} (h : i ≤ j) : ones (r.take i) ≤ ones (r.take j) := by
  have e : j = i + (j - i) := by omega
  rw [e, List.take_add, ones_app]
  omega
theorem ones_lt (r : List Bool) {i j : Nat} (h : i < j) (hi : r[i]? = some true) : ones (r.take i) < ones (r.take j) := by
  have h1 := ones_mono r (i := i + 1) (j := j) h
  rw [List.take_succ, hi, ones_app] at h1
  simp [ones] at h1
  omega
theorem lst_low : ∀ (x : List Bool) (m : Nat), 1 ≤ m → m ≤ x.length → lst x ≤ ht (x.take m)
  | [], m, h1, h2 => by simp at h2; omega
  | b :: t, 0, h1, h2 => by omega
  | b :: t, 1, h1, h2 => by simp [lst, ht]; omega
  | b :: t, m + 2, h1, h2 => by
    have := lst_low t (m + 1) (by omega) (by simpa using h2)
    simp only [lst, List.take_succ_cons, ht]
    omega
theorem lst_some : ∀ (x : List Bool), x ≠ [] → ∃ m, 1 ≤ m ∧ m ≤ x.length ∧ ht (x.take m) = lst x
  | [], h => absurd rfl h
  | [b], _ => ⟨1, by omega, by simp, by simp [lst, ht]⟩
  | b :: c :: t, _ => by
    obtain ⟨m, h1, h2, h3⟩ := lst_some (c :: t) (by simp)
    by_cases h : lst (c :: t) ≤ 0
    · refine ⟨m + 1, by omega, by simp at h2 ⊢; omega, ?_⟩
      rw [List.take_succ_cons]
      simp only [ht]
      rw [h3]
      show _ = bv b + min 0 (lst (c :: t))
      omega
    · refine ⟨1, by omega, by simp, ?_⟩
      show bv b + ht ((c :: t).take 0) = bv b + min 0 (lst (c :: t))
      rw [List.take_zero]
      simp only [ht]
      omega
theorem nn_take {r : List Bool} {h : Nat} (hn : Nn r h) (j : Nat) : Nn (r.take j) h := by
  have e := List.take_append_drop j r
  rw [← e, nn_app] at hn
  exact hn.1
theorem hh_nn {r : List Bool} (hn : Nn r 0) (j : Nat) : 0 ≤ hh r j := by
  have := nn_ht _ _ (nn_take hn j)
  unfold hh
  omega
/-- the way over a knot -/
theorem knot_way {A B C : List Bool} (hB : Bal B 0) {j : Nat} (h1 : A.length < j) (h2 : j ≤ A.length + 1 + B.length) : ht A < hh (A ++ true :: (B ++ false :: C)) j := by
  obtain ⟨m, rfl⟩ : ∃ m, j = A.length + (m + 1) := ⟨j - A.length - 1, by omega⟩
  rw [hh_more]
  have e : hh (true :: (B ++ false :: C)) (m + 1) = 1 + hh B m := by
    unfold hh
    rw [List.take_succ_cons, List.take_append_of_le_length (by omega)]
    rfl
  rw [e]
  have := hh_nn (bal_nn _ _ hB).1 m
  omega
theorem knot_down {A B C : List Bool} (hB : Bal B 0) : hh (A ++ true :: (B ++ false :: C)) (A.length + 1 + B.length + 1) = ht A := by
  have e : A.length + 1 + B.length + 1 = A.length + (B.length + 1 + 1) := by omega
  rw [e, hh_more]
  have e2 : hh (true :: (B ++ false :: C)) (B.length + 1 + 1) = 0 := by
    unfold hh
    rw [List.take_succ_cons]
    have e3 : (B ++ false :: C).take (B.length + 1) = B ++ [false] := by
      rw [List.take_append, List.take_of_length_le (by omega)]
      have : B.length + 1 - B.length = 1 := by omega
      rw [this]
      rfl
    rw [e3]
    simp only [ht]
    rw [ht_app, bal_ht B 0 hB]
    decide
  omega
/-- where a row ends -/
theorem knot_close {A B C : List Bool} : (A ++ true :: (B ++ false :: C))[A.length + 1 + B.length]? = some false := by
  rw [List.getElem?_append_right (by omega)]
  have e : A.length + 1 + B.length - A.length = B.length + 1 := by omega
  rw [e, List.getElem?_cons_succ, List.getElem?_append_right (by omega)]
  simp

section
/-- one step of a reading; as many as go -/
local macro_rules | `(tactic| walk_at "st") => `(tactic| first
  | with_reducible refine go_seq ?_ | with_reducible refine go_asg ?_ | with_reducible refine go_gname ?_ | ((with_reducible refine go_var (v := ?vv) ?hv ?_); (case hv => rfl)) | with_reducible refine go_c ?_ | with_reducible refine go_op ?_
  | with_reducible refine go_add ?_ | with_reducible refine go_sub ?_ | with_reducible refine go_cb ?_ | with_reducible refine go_cons ?_ | with_reducible refine go_nil ?_ | with_reducible refine go_test ?_ | with_reducible refine go_isB ?_
  | with_reducible refine go_if ?_ | with_reducible refine go_lt ?_ | with_reducible refine go_le ?_ | with_reducible refine go_gt ?_ | with_reducible refine go_ge ?_ | with_reducible refine go_eqI ?_ | with_reducible refine go_neI ?_
  | with_reducible refine go_eq1 ?_ | with_reducible refine go_un ?_ | with_reducible refine go_neg ?_ | with_reducible refine go_tand ?_ | with_reducible refine go_tor ?_ | with_reducible refine go_tnot ?_ | with_reducible refine ifB_t ?_ | with_reducible refine ifB_f ?_ | with_reducible refine ifB_nf ?_ | with_reducible refine ifB_nt ?_
  | with_reducible refine go_andV ?_ | with_reducible refine go_orV ?_ | with_reducible refine go_notV ?_ | with_reducible refine go_chain ?_ | with_reducible refine go_tB ?_ | with_reducible refine go_nilt ?_
  | with_reducible refine go_ret ?_ | with_reducible refine go_retN ?_ | with_reducible refine go_next ?_ | with_reducible refine go_drop ?_ | with_reducible refine go_brk ?_ | with_reducible refine go_ct ?_
  | ((with_reducible refine go_aug (n := ?nn) ?ha ?_); (case ha => rfl)) | with_reducible refine go_augi ?_ | with_reducible refine go_lst ?_ | with_reducible refine go_tup ?_ | with_reducible refine go_pick ?_ | with_reducible refine go_picked ?_
  | with_reducible refine go_sl ?_ | with_reducible refine go_nopart ?_ | with_reducible refine go_part ?_ | with_reducible refine go_parti ?_ | with_reducible refine go_isN ?_ | with_reducible refine go_notN ?_ | with_reducible refine go_inS ?_ | with_reducible refine go_notInS ?_
  | with_reducible refine go_max2 ?_ | with_reducible refine go_min2 ?_ | with_reducible refine go_intB ?_ | with_reducible refine go_abs ?_ | with_reducible refine go_cl ?_ | with_reducible refine go_mt ?_ | with_reducible refine go_fld ?_
  | with_reducible refine go_bm ?_ | with_reducible refine go_bm0 ?_ | with_reducible refine ty_str ?_ | ((with_reducible refine ty_lst (xs := ?xx) ?ht ?_); (case ht => assumption))
  | with_reducible refine go_for ?_ | with_reducible refine go_iStr ?_ | with_reducible refine go_strK ?_ | with_reducible refine go_iList ?_ | with_reducible refine go_iEnS ?_ | with_reducible refine go_enSK ?_ | with_reducible refine go_iEnL ?_
  | with_reducible refine go_iR1 ?_ | with_reducible refine go_iR2 ?_ | with_reducible refine go_iR3 ?_ | with_reducible refine go_lc ?_
  | ((with_reducible refine go_div ?hc ?_); (case hc => decide)) | ((with_reducible refine go_mod ?hc ?_); (case hc => decide)) | ((with_reducible refine go_shr ?hc ?_); (case hc => decide)) | with_reducible refine go_and ?_ | with_reducible refine go_or ?_
  | ((with_reducible refine go_lenS ?hz ?_); (case hz => assumption)) | ((with_reducible refine go_lenL (xs := ?xx) ?hz ?_); (case hz => assumption)) | with_reducible refine go_sfld ?_ | with_reducible refine go_mk ?_ | with_reducible refine go_isiII ?_ | with_reducible refine go_isiIB ?_ | with_reducible refine go_isiSS ?_ | with_reducible refine go_gcons ?_ | with_reducible refine go_gnil ?_ | with_reducible refine go_and ?_ | with_reducible refine go_intS ?_ | with_reducible refine go_slT ?_ | with_reducible refine go_iTup ?_ | ((with_reducible refine go_mul ?hc ?_); (case hc => exact .inl ⟨by decide, by decide⟩)))
local macro_rules | `(tactic| walk_at "rd") => `(tactic| repeat walk_at "st")
local macro_rules | `(tactic| walk_at "go") => `(tactic| dsimp only [cxOf, Cx.nox, Cx.wish, L2.start, List.map, List.length_cons, List.length_nil, List.replicate, Nat.reduceAdd, Nat.reduceSub, List.cons_append, List.nil_append])
local macro_rules | `(tactic| walk_at "sz") => `(tactic| (refine Nat.le_trans (m := 100000) ?_ (by decide); first | (simp only [List.length_cons, List.length_nil, List.length_append, List.length_map]; omega) | omega))
/-- two lists of slots are the same -/
local macro_rules | `(tactic| walk_at "se") => `(tactic| ((try dsimp only [List.set]); (repeat' (first | rfl | refine congr (congrArg List.cons ?_) ?_ | refine congrArg (fun z => some (V.int z)) ?_)); (try omega)))
/-! ## class Shaped -/
def shF (pl tl al : Addr) : List (Str × V) := [("parts", .ref pl), ("totals", .ref tl), ("past", .ref al)]
section
variable {pl tl al : Addr}
theorem sh_parts : List.lookup ("parts" : Str) (shF pl tl al) = some (.ref pl) := lk_hit
theorem sh_totals : List.lookup ("totals" : Str) (shF pl tl al) = some (.ref tl) := (lk_miss (kne (by decide +kernel))).trans lk_hit
theorem sh_past : List.lookup ("past" : Str) (shF pl tl al) = some (.ref al) := (lk_miss (kne (by decide +kernel))).trans ((lk_miss (kne (by decide +kernel))).trans lk_hit)
theorem sh_no {m : Str} (h1 : ¬ m = "parts") (h2 : ¬ m = "totals") (h3 : ¬ m = "past") : List.lookup m (shF pl tl al) = none := (lk_miss (kne h1)).trans ((lk_miss (kne h2)).trans ((lk_miss (kne h3)).trans lk_nil))
end
/-- the object stands for the pieces ps; al is the list of what was -/
structure Sh (K : PySem.W.Frag) (H : Hp) (p al : Addr) (ps : List (List Bool)) (n : Nat) (dx pl tl : Addr) (ts : List Addr) (as : List V) : Prop where
  ob : H p = some (.ins (He.ga K "Shaped") dx (shF pl tl al))
  pt : H pl = some (LR ps)
  tt : H tl = some (.lst (ts.map V.ref))
  tu : TupsAt H ts (ps.map sumsV)
  pa : H al = some (.lst as)
  sz : as.length ≤ n
def ShapedAt (K : PySem.W.Frag) (H : Hp) (p al : Addr) (ps : List (List Bool)) (n : Nat) : Prop := ∃ dx pl tl ts as, Sh K H p al ps n dx pl tl ts as
theorem Sh.mono {K : PySem.W.Frag} {H H' : Hp} {p al : Addr} {ps : List (List Bool)} {n : Nat} {dx pl tl : Addr} {ts : List Addr} {as : List V} (h : Sh K H p al ps n dx pl tl ts as) (s : Same H H') : Sh K H' p al ps n dx pl tl ts as :=
  ⟨s _ _ h.ob, s _ _ h.pt, s _ _ h.tt, h.tu.mono fun _ _ q => s _ _ q, s _ _ h.pa, h.sz⟩
theorem ShapedAt.mono {K : PySem.W.Frag} {H H' : Hp} {p al : Addr} {ps : List (List Bool)} {n : Nat} (h : ShapedAt K H p al ps n) (s : Same H H') : ShapedAt K H' p al ps n :=
  let ⟨dx, pl, tl, ts, as, q⟩ := h
  ⟨dx, pl, tl, ts, as, q.mono s⟩
/-- what holds of the pieces -/
structure Ok (ps : List (List Bool)) (r : List Bool) : Prop where
  fl : ps.flatten = r
  fm : Form ps
  bal : Bal r 0
  sz : r.length ≤ 8000
theorem flat_count : ∀ (ps : List (List Bool)), (∀ p ∈ ps, 1 ≤ p.length) → ps.length ≤ ps.flatten.length
  | [], _ => Nat.le_refl _
  | p :: ps, h => by
    have h1 := h p (by simp)
    have h2 := flat_count ps fun q hq => h q (by simp [hq])
    simp only [List.length_cons, List.flatten_cons, List.length_append]
    omega
theorem Ok.many {ps : List (List Bool)} {r : List Bool} (h : Ok ps r) : ps.length ≤ 8000 := by
  have h1 := flat_count ps fun p hp => (h.fm.sz p hp).1
  have h2 := h.sz
  rw [← h.fl] at h2
  omega
theorem Ok.piece {ps : List (List Bool)} {r : List Bool} (h : Ok ps r) {i : Nat} {x : List Bool} (e : ps[i]? = some x) : 1 ≤ x.length ∧ x.length ≤ 128 := h.fm.sz x (List.mem_of_getElem? e)
def Keep2 (p a : Addr) (H H' : Hp) : Prop := ∀ b o, b ≠ p → b ≠ a → H b = some o → H' b = some o
/-- what is told of the object at a turn -/
structure ShArg where
  p : Addr
  al : Addr
  ps : List (List Bool)
  n : Nat
  r : List Bool
structure ShPre (K : PySem.W.Frag) (a : ShArg) (H : Hp) : Prop where
  sh : ShapedAt K H a.p a.al a.ps a.n
  ok : Ok a.ps a.r
theorem Sh.tot {K : PySem.W.Frag} {H : Hp} {p al : Addr} {ps : List (List Bool)} {n : Nat} {dx pl tl : Addr} {ts : List Addr} {as : List V} (h : Sh K H p al ps n dx pl tl ts as) {i : Nat} {x : List Bool} (e : ps[i]? = some x) :
    ∃ t, (ts.map V.ref)[i]? = some (.ref t) ∧ H t = some (.tup (sumsV x)) := by
  obtain ⟨t, h1, h2⟩ := h.tu.2 i (sumsV x) (map_at e)
  exact ⟨t, map_at h1, h2⟩
def sp_Shaped_init (K : PySem.W.Frag) : Sp := mkSp (α := Addr × Addr × List Int × List Bool) (fun a => [.ref a.1, .ref a.2.1]) (fun a H => (∃ dx, H a.1 = some (.ins (He.ga K "Shaped") dx [])) ∧ H a.2.1 = some (LI a.2.2.1) ∧ Wood a.2.2.1 a.2.2.2 ∧ a.2.2.1.length ≤ 4000)
  (fun a H v H' => v = .non ∧ Keep a.1 H H' ∧ ∃ al, H al = none ∧ ShapedAt K H' a.1 al (cuts a.2.2.2) 0)
theorem sc_Shaped_init : FnScope ["self", "elders", "part"] ["self", "elders"] (defScope s_Shaped_init) := ⟨rfl, rfl, rfl, by decide +kernel, rfl, by decide +kernel, by decide +kernel⟩
theorem ok_Shaped_init {P : Program} {w : World} {K : PySem.W.Frag} {mg : Str → Option Value} {base : Heap} (T : Top K mg) (R_look_at : Rdy P w K mg base "look_at" 1 ["elders"] (sp_look_at K)) (R_row_of : Rdy P w K mg base "row_of" 1 ["elders"] (sp_row_of K)) (R_cut_evenly : Rdy P w K mg base "cut_evenly" 1 ["text"] (sp_cut_evenly K)) (R_sums_of : Rdy P w K mg base "sums_of" 1 ["text"] (sp_sums_of K)) : RdyI P w K mg base "Shaped" 2 ["self", "elders"] (sp_Shaped_init K) := by
  refine rdyI T.g_Shaped T.k_Shaped T.f_Shaped_init sc_Shaped_init (fun _ => rfl) (fun _ _ _ _ _ _ us hl => match us, hl with | [_, _], _ => rfl) fun cdv A outer s H a Q E hr hp hQ => ⟨_, (pss_cons (ps_fld (pv 0) (pe_f R_cut_evenly (hr.mono (by decide)) (pa_cons (pe_f R_row_of (hr.mono (by decide)) (pa_cons (pe_f R_look_at (hr.mono (by decide)) (pa_cons (pv 1) pa_nil)) pa_nil)) pa_nil)) rfl)
      (pss_cons (ps_fld (pv 0) (pe_lc (own := [("part", 2)]) (g := gName 2) (tt := tYes) rfl sc_Shaped_init.nd (pi_list (pe_fld (pv 0) rfl)) (blkOk_by (own := [("part", 2)]) (N := ["self", "elders", "part"]) (sc := defScope s_Shaped_init) (by decide +kernel)) (fun _ _ _ _ _ => pg_name (i := 2) sc_Shaped_init.nd rfl (Or.inl rfl)) (fun _ _ _ _ _ => by exact pts_nil) (fun _ _ _ _ _ => by exact (pe_f R_sums_of (hr.mono (by decide)) (pa_cons (pv 2) pa_nil)))) rfl)
      (pss_one (ps_fld (pv 0) (pe_lst pa_nil) rfl)))), ?_⟩
  obtain ⟨p, ep, es, r⟩ := a
  obtain ⟨⟨dx, hp⟩, he, hw, hl⟩ := hp
  simp only at hp he hw hl
  obtain ⟨wl1, wl2⟩ := wood_len hw
  walk_at "go"
  walk_at "rd"
  refine ⟨(ep, es, r), rfl, ⟨he, hw, hl⟩, ?_⟩
  rintro v H1 ⟨p1, rfl, n1, s1, h1⟩
  walk_at "rd"
  refine ⟨(p1, es, r), rfl, ⟨h1, hw, hl⟩, ?_⟩
  rintro v H2 ⟨s2, hv⟩
  replace hv : v = .str (S r) := hv
  subst hv
  walk_at "rd"
  refine ⟨r, rfl, by show r.length ≤ 100000; omega, ?_⟩
  rintro v H3 ⟨pl, rfl, n3, s3, h3⟩
  walk_at "rd"
  have s03 := (s1.trans s2).trans s3
  have hp3 := s03 _ _ hp
  have plne : pl ≠ p := fun e => by
    rw [e, hp3] at h3
    cases h3
  refine go_setK hp3 T.c_Shaped T.n_Shaped_parts (by show 0 < 1000; decide) pf_nil fun H4 h4 k4 => ?_
  walk_at "rd"
  refine go_fldK h4 T.c_Shaped T.n_Shaped_parts lk_hit ?_
  have h5 := k4 _ _ plne h3
  refine go_listK (SqL.of h5) ?_
  refine lc_U (as := cuts r) (f := vr) sumsV wk_list (fun H' s' => SqL.of (s' _ _ h5)) (by rw [cuts_len]; exact Nat.lt_of_le_of_lt (m := 100000) (by omega) (by decide)) (fun _ => rfl) (fun x _ H' s' Q' q' => ?_) (fun tl ts H6 n6 s6 h6 u6 => ?_)
  · walk_at "rd"
    refine ⟨x, rfl, trivial, ?_⟩
    rintro v H2 ⟨t, rfl, nt, st, hte⟩
    exact q' t H2 nt st hte
  walk_at "rd"
  refine go_setK (s6 _ _ h4) T.c_Shaped T.n_Shaped_totals (by show 1 < 1000; decide) (pf1 (by decide +kernel)) fun H7 h7 k7 => ?_
  walk_at "rd"
  refine go_newL (by walk_at "sz") fun al H8 n8 s8 h8 => ?_
  walk_at "rd"
  refine go_setK (s8 _ _ h7) T.c_Shaped T.n_Shaped_past (by show 2 < 1000; decide) (pf2 (by decide +kernel) (by decide +kernel)) fun H9 h9 k9 => ?_
  have k49 : Keep p H6 H9 := keep_trans (keep_trans k7 (same_kp s8)) k9
  have tne : tl ≠ p := fun e => by
    rw [e, s6 _ _ h4] at h6
    cases h6
  have ane : al ≠ p := fun e => by
    rw [e, h7] at n8
    cases n8
  have kall : Keep p H H9 := keep_trans (keep_trans (same_kp s03) k4) (keep_trans (same_kp s6) k49)
  refine hQ _ _ ⟨rfl, kall, al, ?_, dx, pl, tl, ts, [], h9, k49 _ _ plne (s6 _ _ h5), k49 _ _ tne h6, u6.mono fun a u q => k49 _ _ (fun e => ?_) q, k9 _ _ ane h8, Nat.le_refl _⟩
  · cases hc : H al with
    | none => rfl
    | some o =>
      have q := kall
      have q2 : H7 al = some o := k7 _ _ ane (s6 _ _ (k4 _ _ ane (s03 _ _ hc)))
      rw [q2] at n8
      cases n8
  · rw [e, s6 _ _ h4] at q
    cases q
def sp_Shaped_pieces (K : PySem.W.Frag) : Sp := mkSp (α := ShArg) (fun a => [.ref a.p]) (ShPre K) (fun a H v H' => NewO (LR a.ps) H v H')
theorem sc_Shaped_pieces : FnScope ["self"] ["self"] (defScope s_Shaped_pieces) := ⟨rfl, rfl, rfl, by decide +kernel, rfl, by decide +kernel, by decide +kernel⟩
theorem ok_Shaped_pieces {P : Program} {w : World} {K : PySem.W.Frag} {mg : Str → Option Value} {base : Heap} (T : Top K mg)  : RdyM P w K mg base "Shaped" "pieces" 1 ["self"] (sp_Shaped_pieces K) := by
  refine rdyM T.c_Shaped T.m_Shaped_pieces T.f_Shaped_pieces sc_Shaped_pieces (fun _ => rfl) (fun _ _ _ _ _ _ us hl => match us, hl with | [_], _ => rfl) fun cdv A outer s H a Q E hr hp hQ => ⟨_, (pss_one (ps_ret (pe_callTy (r := cListOf K) call_list_of rfl T.b_list (by decide +kernel) (pa_cons (pe_fld (pv 0) rfl) pa_nil)))), ?_⟩
  obtain ⟨⟨dx, pl, tl, ts, as, h⟩, ok⟩ := hp
  walk_at "go"
  walk_at "rd"
  refine go_fldK h.ob T.c_Shaped T.n_Shaped_parts sh_parts ?_
  walk_at "rd"
  refine go_listOf (SqL.of h.pt) fun p' H3 n3 s3 h3 => ?_
  exact hQ _ _ ⟨p', rfl, n3, s3, h3⟩
def sp_Shaped_sums (K : PySem.W.Frag) : Sp := mkSp (α := ShArg) (fun a => [.ref a.p]) (ShPre K) (fun a H v H' => ∃ p ts, v = .ref p ∧ H p = none ∧ Same H H' ∧ H' p = some (.lst (ts.map V.ref)) ∧ TupsAt H' ts (a.ps.map sumsV))
theorem sc_Shaped_sums : FnScope ["self"] ["self"] (defScope s_Shaped_sums) := ⟨rfl, rfl, rfl, by decide +kernel, rfl, by decide +kernel, by decide +kernel⟩
theorem ok_Shaped_sums {P : Program} {w : World} {K : PySem.W.Frag} {mg : Str → Option Value} {base : Heap} (T : Top K mg)  : RdyM P w K mg base "Shaped" "sums" 1 ["self"] (sp_Shaped_sums K) := by
  refine rdyM T.c_Shaped T.m_Shaped_sums T.f_Shaped_sums sc_Shaped_sums (fun _ => rfl) (fun _ _ _ _ _ _ us hl => match us, hl with | [_], _ => rfl) fun cdv A outer s H a Q E hr hp hQ => ⟨_, (pss_one (ps_ret (pe_callTy (r := cListOf K) call_list_of rfl T.b_list (by decide +kernel) (pa_cons (pe_fld (pv 0) rfl) pa_nil)))), ?_⟩
  obtain ⟨⟨dx, pl, tl, ts, as, h⟩, ok⟩ := hp
  walk_at "go"
  walk_at "rd"
  refine go_fldK h.ob T.c_Shaped T.n_Shaped_totals sh_totals ?_
  walk_at "rd"
  refine go_listOf (SqL.of h.tt) fun p' H3 n3 s3 h3 => ?_
  exact hQ _ _ ⟨p', ts, rfl, n3, s3, h3, h.tu.mono fun _ _ q => s3 _ _ q⟩
def sp_Shaped_row (K : PySem.W.Frag) : Sp := mkSp (α := ShArg) (fun a => [.ref a.p]) (ShPre K) (fun a H v H' => H' = H ∧ v = .str (S a.r))
theorem sc_Shaped_row : FnScope ["self"] ["self"] (defScope s_Shaped_row) := ⟨rfl, rfl, rfl, by decide +kernel, rfl, by decide +kernel, by decide +kernel⟩
theorem ok_Shaped_row {P : Program} {w : World} {K : PySem.W.Frag} {mg : Str → Option Value} {base : Heap} (T : Top K mg)  : RdyM P w K mg base "Shaped" "row" 1 ["self"] (sp_Shaped_row K) := by
  refine rdyM T.c_Shaped T.m_Shaped_row T.f_Shaped_row sc_Shaped_row (fun _ => rfl) (fun _ _ _ _ _ _ us hl => match us, hl with | [_], _ => rfl) fun cdv A outer s H a Q E hr hp hQ => ⟨_, (pss_one (ps_ret (pe_bm PySem.F.plainAttrs_str PySem.F.slot_str_join PySem.F.type_str_join (r := mJoin K) mt_join pe_str (pa_cons (pe_fld (pv 0) rfl) pa_nil)))), ?_⟩
  obtain ⟨⟨dx, pl, tl, ts, as, h⟩, ok⟩ := hp
  have e1 := ok.fl
  have e2 := ok.sz
  walk_at "go"
  walk_at "rd"
  refine go_fldK h.ob T.c_Shaped T.n_Shaped_parts sh_parts ?_
  walk_at "rd"
  refine go_join h.pt (by rw [e1]; omega) ?_
  rw [e1]
  exact hQ _ _ ⟨rfl, rfl⟩
theorem sum_ones : ∀ ps : List (List Bool), (ps.map fun x => (ones x : Int)).sum = ones ps.flatten
  | [] => rfl
  | p :: ps => by
    have := sum_ones ps
    rw [List.map_cons, List.sum_cons, this, List.flatten_cons, ones_app]
    omega
theorem sum_lens : ∀ ps : List (List Bool), (ps.map fun x => (x.length : Int)).sum = ps.flatten.length
  | [] => rfl
  | p :: ps => by
    have := sum_lens ps
    rw [List.map_cons, List.sum_cons, this, List.flatten_cons, List.length_append]
    omega
/-- [total[0] for total in totals]: the rows by their places -/
theorem tups_ones {ts : List Addr} {ps : List (List Bool)} {H : Hp} (u : TupsAt H ts (ps.map sumsV)) : ∃ on : Addr → Int, ts.map on = ps.map (fun x => (ones x : Int)) ∧ ∀ t ∈ ts, ∃ x, H t = some (.tup (sumsV x)) ∧ on t = ones x := by
  refine ⟨fun t => match H t with | some (.tup (.int n :: _)) => n | _ => 0, ?_, fun t ht => ?_⟩
  · refine List.ext_getElem? fun i => ?_
    rw [List.getElem?_map, List.getElem?_map]
    cases e : ps[i]? with
    | none =>
      have h1 := u.1
      rw [List.length_map] at h1
      have h2 := List.getElem?_eq_none_iff.mp e
      rw [List.getElem?_eq_none (by omega)]
      rfl
    | some x =>
      obtain ⟨t, h1, h2⟩ := u.2 i (sumsV x) (map_at e)
      rw [h1]
      show some _ = some _
      simp only [h2, sumsV]
  · obtain ⟨i, hi, e⟩ := List.mem_iff_getElem.mp ht
    have h1 := u.1
    rw [List.length_map] at h1
    obtain ⟨t', h2, h3⟩ := u.2 i (sumsV ps[i]) (map_at (List.getElem?_eq_getElem (by omega)))
    rw [List.getElem?_eq_getElem hi, e] at h2
    have e2 : t = t' := Option.some.inj h2
    subst e2
    exact ⟨_, h3, by simp only [h3, sumsV]⟩
def sp_Shaped_many_knots (K : PySem.W.Frag) : Sp := mkSp (α := ShArg) (fun a => [.ref a.p]) (ShPre K) (fun a H v H' => Same H H' ∧ v = .int (ones a.r))
theorem sc_Shaped_many_knots : FnScope ["self", "total"] ["self"] (defScope s_Shaped_many_knots) := ⟨rfl, rfl, rfl, by decide +kernel, rfl, by decide +kernel, by decide +kernel⟩
theorem ok_Shaped_many_knots {P : Program} {w : World} {K : PySem.W.Frag} {mg : Str → Option Value} {base : Heap} (T : Top K mg)  : RdyM P w K mg base "Shaped" "many_knots" 1 ["self"] (sp_Shaped_many_knots K) := by
  refine rdyM T.c_Shaped T.m_Shaped_many_knots T.f_Shaped_many_knots sc_Shaped_many_knots (fun _ => rfl) (fun _ _ _ _ _ _ us hl => match us, hl with | [_], _ => rfl) fun cdv A outer s H a Q E hr hp hQ => ⟨_, (pss_one (ps_ret (pe_callB (cr_sum rfl) rfl T.b_sum (by decide +kernel) (pa_cons (pe_lc (own := [("total", 1)]) (g := gName 1) (tt := tYes) rfl sc_Shaped_many_knots.nd (pi_list (pe_fld (pv 0) rfl)) (blkOk_by (own := [("total", 1)]) (N := ["self", "total"]) (sc := defScope s_Shaped_many_knots) (by decide +kernel)) (fun _ _ _ _ _ => pg_name (i := 1) sc_Shaped_many_knots.nd rfl (Or.inl rfl)) (fun _ _ _ _ _ => by exact pts_nil) (fun _ _ _ _ _ => by exact (pe_ix (r := rIxT K) ix_tup (pv 1) pe_int (fun _ _ => rfl)))) pa_nil)))), ?_⟩
  obtain ⟨⟨dx, pl, tl, ts, as, h⟩, ok⟩ := hp
  obtain ⟨on, o1, o2⟩ := tups_ones h.tu
  have hm := ok.many
  have hl := h.tu.1
  rw [List.length_map] at hl
  walk_at "go"
  walk_at "rd"
  refine go_fldK h.ob T.c_Shaped T.n_Shaped_totals sh_totals ?_
  refine go_listK (SqL.of h.tt) ?_
  refine lc_F (as := ts) (f := V.ref) (fun _ => true) (fun t => .int (on t)) wk_list (fun H' s' => SqL.of (s' _ _ h.tt)) (Nat.lt_of_le_of_lt (m := 8000) (by omega) (by decide)) (fun _ => rfl) (fun _ _ _ _ => evT_yes) (fun t ht _ H' s' Q' q' => ?_) (fun L H1 n1 s1 h1 => ?_)
  · obtain ⟨x, x1, x2⟩ := o2 t ht
    walk_at "rd"
    refine go_ixT (s' _ _ x1) (at_i 0 rfl rfl) ?_
    rw [← x2]
    exact q' _ (Same.refl _)
  have e1 : (ts.filter fun _ => true).map (fun t => V.int (on t)) = (a.ps.map fun x => (ones x : Int)).map V.int := by
    rw [List.filter_eq_self.mpr (fun _ _ => rfl), ← o1, List.map_map]
    rfl
  rw [e1] at h1
  walk_at "rd"
  refine go_sum h1 ?_
  rw [sum_ones, ok.fl]
  exact hQ _ _ ⟨s1, rfl⟩
def sp_Shaped_look_at_knot (K : PySem.W.Frag) : Sp := mkSp (α := ShArg × Nat) (fun a => [.ref a.1.p, .int a.2]) (fun a H => ShPre K a.1 H ∧ a.2 < ones a.1.r) (fun a H v H' => Same H H' ∧ v = .non)
theorem sc_Shaped_look_at_knot : FnScope ["self", "k"] ["self", "k"] (defScope s_Shaped_look_at_knot) := ⟨rfl, rfl, rfl, by decide +kernel, rfl, by decide +kernel, by decide +kernel⟩
theorem ok_Shaped_look_at_knot {P : Program} {w : World} {K : PySem.W.Frag} {mg : Str → Option Value} {base : Heap} (T : Top K mg) (R_is_number : Rdy P w K mg base "is_number" 1 ["thing"] (sp_is_number K)) (R_Shaped_many_knots : RdyM P w K mg base "Shaped" "many_knots" 1 ["self"] (sp_Shaped_many_knots K)) : RdyM P w K mg base "Shaped" "look_at_knot" 2 ["self", "k"] (sp_Shaped_look_at_knot K) := by
  refine rdyM T.c_Shaped T.m_Shaped_look_at_knot T.f_Shaped_look_at_knot sc_Shaped_look_at_knot (fun _ => rfl) (fun _ _ _ _ _ _ us hl => match us, hl with | [_, _], _ => rfl) fun cdv A outer s H a Q E hr hp hQ => ⟨_, (pss_one (ps_if (PW.pt (pw_or (pt_not (pt_val (pe_f R_is_number (hr.mono (by decide)) (pa_cons (pv 1) pa_nil)))) (pw_or1 (pt_cmpR (r := rGe) op_ge (pv 1) (pe_m0 R_Shaped_many_knots (hr.mono (by decide)) (pv 0)) (nomark _))))) (pss_one ps_never) pss_nil)), ?_⟩
  obtain ⟨a, k⟩ := a
  obtain ⟨hS, hk⟩ := hp
  simp only at hS hk
  obtain ⟨⟨dx, pl, tl, ts, as, h⟩, ok⟩ := id hS
  walk_at "go"
  walk_at "rd"
  refine ⟨(k : Int), rfl, by show (0 : Int) ≤ (k : Int); omega, ?_⟩
  rintro v H1 ⟨eH, rfl⟩
  subst eH
  walk_at "rd"
  refine go_mtK h.ob (sh_no (by decide +kernel) (by decide +kernel) (by decide +kernel)) ?_
  walk_at "rd"
  refine ⟨a, rfl, hS, ?_⟩
  rintro v H2 ⟨s2, rfl⟩
  walk_at "rd"
  refine ifB_n (decide_eq_false (by omega)) ?_
  walk_at "rd"
  exact hQ _ _ ⟨s2, rfl⟩
def sp_Shaped_knot_at (K : PySem.W.Frag) : Sp := mkSp (α := ShArg × Nat × Nat) (fun a => [.ref a.1.p, .int a.2.1, .int a.2.2]) (fun a H => ShPre K a.1 H ∧ ∃ x, a.1.ps[a.2.1]? = some x ∧ a.2.2 ≤ x.length) (fun a H v H' => Same H H' ∧ v = .int (ones (a.1.r.take (cum a.1.ps a.2.1 + a.2.2))))
theorem sc_Shaped_knot_at : FnScope ["self", "at", "place", "total"] ["self", "at", "place"] (defScope s_Shaped_knot_at) := ⟨rfl, rfl, rfl, by decide +kernel, rfl, by decide +kernel, by decide +kernel⟩
theorem ok_Shaped_knot_at {P : Program} {w : World} {K : PySem.W.Frag} {mg : Str → Option Value} {base : Heap} (T : Top K mg)  : RdyM P w K mg base "Shaped" "knot_at" 1 ["self", "at", "place"] (sp_Shaped_knot_at K) := by
  refine rdyM T.c_Shaped T.m_Shaped_knot_at T.f_Shaped_knot_at sc_Shaped_knot_at (fun _ => rfl) (fun _ _ _ _ _ _ us hl => match us, hl with | [_, _, _], _ => rfl) fun cdv A outer s H a Q E hr hp hQ => ⟨_, (pss_one (ps_ret (pe_op (r := rAddI) op_add (pe_callB (cr_sum rfl) rfl T.b_sum (by decide +kernel) (pa_cons (pe_lc (own := [("total", 3)]) (g := gName 3) (tt := tYes) rfl sc_Shaped_knot_at.nd (pi_list (pe_slice sl_list (pe_fld (pv 0) rfl) po_none (po_some (pv 1)))) (blkOk_by (own := [("total", 3)]) (N := ["self", "at", "place", "total"]) (sc := defScope s_Shaped_knot_at) (by decide +kernel)) (fun _ _ _ _ _ => pg_name (i := 3) sc_Shaped_knot_at.nd rfl (Or.inl rfl)) (fun _ _ _ _ _ => by exact pts_nil) (fun _ _ _ _ _ => by exact (pe_ix (r := rIxT K) ix_tup (pv 3) pe_int (fun _ _ => rfl)))) pa_nil)) (pe_bm PySem.F.plainAttrs_str PySem.F.slot_str_count PySem.F.type_str_count (r := mCount) mt_count (pe_slice sl_str (pe_ix (r := rIxL K) ix_list (pe_fld (pv 0) rfl) (pv 1) (fun _ _ => rfl)) po_none (po_some (pv 2))) (pa_cons pe_str pa_nil))))), ?_⟩
  obtain ⟨a, i, o⟩ := a
  obtain ⟨hS, x, hx, ho⟩ := hp
  simp only at hS hx ho
  obtain ⟨⟨dx, pl, tl, ts, as, h⟩, ok⟩ := id hS
  obtain ⟨on, o1, o2⟩ := tups_ones h.tu
  have hm := ok.many
  have hl := h.tu.1
  rw [List.length_map] at hl
  have hxz : x.length ≤ sizeLine := Nat.le_trans (ok.piece hx).2 (by decide)
  walk_at "go"
  walk_at "rd"
  refine go_fldK h.ob T.c_Shaped T.n_Shaped_totals sh_totals ?_
  walk_at "rd"
  refine go_slL (SqL.of h.tt) fun p2 H1 n1 s1 h1 => ?_
  rw [cutV_to, ← List.map_take] at h1
  refine go_listK (SqL.of h1) ?_
  refine lc_F (as := ts.take i) (f := V.ref) (fun _ => true) (fun t => .int (on t)) wk_list (fun H' s' => SqL.of (s' _ _ h1)) (Nat.lt_of_le_of_lt (m := 8000) (by rw [List.length_take]; omega) (by decide)) (fun _ => rfl) (fun _ _ _ _ => evT_yes) (fun t ht _ H' s' Q' q' => ?_) (fun L H2 n2 s2 h2 => ?_)
  · obtain ⟨x, x1, x2⟩ := o2 t (List.mem_of_mem_take ht)
    walk_at "rd"
    refine go_ixT (s' _ _ (s1 _ _ x1)) (at_i 0 rfl rfl) ?_
    rw [← x2]
    exact q' _ (Same.refl _)
  have e1 : ((ts.take i).filter fun _ => true).map (fun t => V.int (on t)) = ((a.ps.take i).map fun x => (ones x : Int)).map V.int := by
    have e0 : (a.ps.take i).map (fun x => (ones x : Int)) = (ts.take i).map on := by rw [List.map_take, ← o1, List.map_take]
    rw [List.filter_eq_self.mpr (fun _ _ => rfl), e0, List.map_map]
    rfl
  rw [e1] at h2
  walk_at "rd"
  refine go_sum h2 ?_
  rw [sum_ones]
  walk_at "rd"
  have h' := h.mono (s1.trans s2)
  refine go_fldK h'.ob T.c_Shaped T.n_Shaped_parts sh_parts ?_
  walk_at "rd"
  refine go_ixL h'.pt (at_i i rfl (map_at hx)) ?_
  walk_at "rd"
  refine go_slS hxz ?_
  rw [sl_to]
  walk_at "rd"
  refine go_count ?_
  walk_at "rd"
  refine hQ _ _ ⟨s1.trans s2, ?_⟩
  have e3 : ones (a.ps.flatten.take (cum a.ps i + o)) = ones (a.ps.take i).flatten + ones (x.take o) := by
    rw [ones_piece hx ho, flat_take]
  show _ = V.int (ones (a.r.take (cum a.ps i + o)) : Nat)
  rw [← ok.fl, e3, Int.natCast_add]
def sp_Shaped_row_place (K : PySem.W.Frag) : Sp := mkSp (α := ShArg × Nat × Nat) (fun a => [.ref a.1.p, .int a.2.1, .int a.2.2]) (fun a H => ShPre K a.1 H) (fun a H v H' => Same H H' ∧ v = .int (cum a.1.ps a.2.1 + a.2.2 : Nat))
theorem sc_Shaped_row_place : FnScope ["self", "at", "place", "part"] ["self", "at", "place"] (defScope s_Shaped_row_place) := ⟨rfl, rfl, rfl, by decide +kernel, rfl, by decide +kernel, by decide +kernel⟩
theorem ok_Shaped_row_place {P : Program} {w : World} {K : PySem.W.Frag} {mg : Str → Option Value} {base : Heap} (T : Top K mg)  : RdyM P w K mg base "Shaped" "row_place" 1 ["self", "at", "place"] (sp_Shaped_row_place K) := by
  refine rdyM T.c_Shaped T.m_Shaped_row_place T.f_Shaped_row_place sc_Shaped_row_place (fun _ => rfl) (fun _ _ _ _ _ _ us hl => match us, hl with | [_, _, _], _ => rfl) fun cdv A outer s H a Q E hr hp hQ => ⟨_, (pss_one (ps_ret (pe_op (r := rAddI) op_add (pe_callB (cr_sum rfl) rfl T.b_sum (by decide +kernel) (pa_cons (pe_lc (own := [("part", 3)]) (g := gName 3) (tt := tYes) rfl sc_Shaped_row_place.nd (pi_list (pe_slice sl_list (pe_fld (pv 0) rfl) po_none (po_some (pv 1)))) (blkOk_by (own := [("part", 3)]) (N := ["self", "at", "place", "part"]) (sc := defScope s_Shaped_row_place) (by decide +kernel)) (fun _ _ _ _ _ => pg_name (i := 3) sc_Shaped_row_place.nd rfl (Or.inl rfl)) (fun _ _ _ _ _ => by exact pts_nil) (fun _ _ _ _ _ => by exact (pe_callB (r := cLenS) call_len_str rfl T.b_len (by decide +kernel) (pa_cons (pv 3) pa_nil)))) pa_nil)) (pv 2)))), ?_⟩
  obtain ⟨a, i, o⟩ := a
  obtain ⟨⟨dx, pl, tl, ts, as, h⟩, ok⟩ := hp
  have hm := ok.many
  simp only at h ok hm
  walk_at "go"
  walk_at "rd"
  refine go_fldK h.ob T.c_Shaped T.n_Shaped_parts sh_parts ?_
  walk_at "rd"
  refine go_slL (SqL.of h.pt) fun p2 H1 n1 s1 h1 => ?_
  rw [cutV_to, ← List.map_take] at h1
  refine go_listK (SqL.of h1) ?_
  refine lc_F (as := a.ps.take i) (f := vr) (fun _ => true) (fun x => .int (x.length : Nat)) wk_list (fun H' s' => SqL.of (s' _ _ h1)) (Nat.lt_of_le_of_lt (m := 8000) (by rw [List.length_take]; omega) (by decide)) (fun _ => rfl) (fun _ _ _ _ => evT_yes) (fun x hx _ H' s' Q' q' => ?_) (fun L H2 n2 s2 h2 => ?_)
  · have hz : x.length ≤ sizeLine := Nat.le_trans (ok.fm.sz x (List.mem_of_mem_take hx)).2 (by decide)
    walk_at "rd"
    exact q' _ (Same.refl _)
  have e1 : ((a.ps.take i).filter fun _ => true).map (fun x => V.int (x.length : Nat)) = ((a.ps.take i).map fun x => (x.length : Int)).map V.int := by
    rw [List.filter_eq_self.mpr (fun _ _ => rfl), List.map_map]
    rfl
  rw [e1] at h2
  walk_at "rd"
  refine go_sum h2 ?_
  rw [sum_lens]
  walk_at "rd"
  refine hQ _ _ ⟨s1.trans s2, ?_⟩
  show V.int (((a.ps.take i).flatten.length : Int) + (o : Int)) = V.int ((cum a.ps i + o : Nat) : Int)
  unfold cum
  rw [Int.natCast_add]

end
section
/-- one step of a reading; as many as go -/
local macro_rules | `(tactic| walk_at "st") => `(tactic| first
  | with_reducible refine go_seq ?_ | with_reducible refine go_asg ?_ | with_reducible refine go_gname ?_ | ((with_reducible refine go_var (v := ?vv) ?hv ?_); (case hv => rfl)) | with_reducible refine go_c ?_ | with_reducible refine go_op ?_
  | with_reducible refine go_add ?_ | with_reducible refine go_sub ?_ | with_reducible refine go_cb ?_ | with_reducible refine go_cons ?_ | with_reducible refine go_nil ?_ | with_reducible refine go_test ?_ | with_reducible refine go_isB ?_
  | with_reducible refine go_if ?_ | with_reducible refine go_lt ?_ | with_reducible refine go_le ?_ | with_reducible refine go_gt ?_ | with_reducible refine go_ge ?_ | with_reducible refine go_eqI ?_ | with_reducible refine go_neI ?_
  | with_reducible refine go_eq1 ?_ | with_reducible refine go_un ?_ | with_reducible refine go_neg ?_ | with_reducible refine go_tand ?_ | with_reducible refine go_tor ?_ | with_reducible refine go_tnot ?_ | with_reducible refine ifB_t ?_ | with_reducible refine ifB_f ?_ | with_reducible refine ifB_nf ?_ | with_reducible refine ifB_nt ?_
  | with_reducible refine go_andV ?_ | with_reducible refine go_orV ?_ | with_reducible refine go_notV ?_ | with_reducible refine go_chain ?_ | with_reducible refine go_tB ?_ | with_reducible refine go_nilt ?_
  | with_reducible refine go_ret ?_ | with_reducible refine go_retN ?_ | with_reducible refine go_next ?_ | with_reducible refine go_drop ?_ | with_reducible refine go_brk ?_ | with_reducible refine go_ct ?_
  | ((with_reducible refine go_aug (n := ?nn) ?ha ?_); (case ha => rfl)) | with_reducible refine go_augi ?_ | with_reducible refine go_lst ?_ | with_reducible refine go_tup ?_ | with_reducible refine go_pick ?_ | with_reducible refine go_picked ?_
  | with_reducible refine go_sl ?_ | with_reducible refine go_nopart ?_ | with_reducible refine go_part ?_ | with_reducible refine go_parti ?_ | with_reducible refine go_isN ?_ | with_reducible refine go_notN ?_ | with_reducible refine go_inS ?_ | with_reducible refine go_notInS ?_
  | with_reducible refine go_max2 ?_ | with_reducible refine go_min2 ?_ | with_reducible refine go_intB ?_ | with_reducible refine go_abs ?_ | with_reducible refine go_cl ?_ | with_reducible refine go_mt ?_ | with_reducible refine go_fld ?_
  | with_reducible refine go_bm ?_ | with_reducible refine go_bm0 ?_ | with_reducible refine ty_str ?_ | ((with_reducible refine ty_lst (xs := ?xx) ?ht ?_); (case ht => assumption))
  | with_reducible refine go_for ?_ | with_reducible refine go_iStr ?_ | with_reducible refine go_strK ?_ | with_reducible refine go_iList ?_ | with_reducible refine go_iEnS ?_ | with_reducible refine go_enSK ?_ | with_reducible refine go_iEnL ?_
  | with_reducible refine go_iR1 ?_ | with_reducible refine go_iR2 ?_ | with_reducible refine go_iR3 ?_ | with_reducible refine go_lc ?_
  | ((with_reducible refine go_div ?hc ?_); (case hc => decide)) | ((with_reducible refine go_mod ?hc ?_); (case hc => decide)) | ((with_reducible refine go_shr ?hc ?_); (case hc => decide)) | with_reducible refine go_and ?_ | with_reducible refine go_or ?_
  | ((with_reducible refine go_lenS ?hz ?_); (case hz => assumption)) | ((with_reducible refine go_lenL (xs := ?xx) ?hz ?_); (case hz => assumption)) | with_reducible refine go_sfld ?_ | with_reducible refine go_mk ?_ | with_reducible refine go_isiII ?_ | with_reducible refine go_isiIB ?_ | with_reducible refine go_isiSS ?_ | with_reducible refine go_gcons ?_ | with_reducible refine go_gnil ?_ | with_reducible refine go_and ?_ | with_reducible refine go_intS ?_ | with_reducible refine go_slT ?_ | with_reducible refine go_iTup ?_ | ((with_reducible refine go_mul ?hc ?_); (case hc => exact .inl ⟨by decide, by decide⟩)))
local macro_rules | `(tactic| walk_at "rd") => `(tactic| repeat walk_at "st")
local macro_rules | `(tactic| walk_at "go") => `(tactic| dsimp only [cxOf, Cx.nox, Cx.wish, L2.start, List.map, List.length_cons, List.length_nil, List.replicate, Nat.reduceAdd, Nat.reduceSub, List.cons_append, List.nil_append])
local macro_rules | `(tactic| walk_at "sz") => `(tactic| (refine Nat.le_trans (m := 100000) ?_ (by decide); first | (simp only [List.length_cons, List.length_nil, List.length_append, List.length_map]; omega) | omega))
/-- two lists of slots are the same -/
local macro_rules | `(tactic| walk_at "se") => `(tactic| ((try dsimp only [List.set]); (repeat' (first | rfl | refine congr (congrArg List.cons ?_) ?_ | refine congrArg (fun z => some (V.int z)) ?_)); (try omega)))
/-! ## places of knots -/
theorem ifB_out {A B : Prop} (h : ifB false A B) : B := by
  unfold ifB at h
  rw [if_neg Bool.false_ne_true] at h
  exact h
theorem hh_bit {r : List Bool} {j : Nat} (h : j < r.length) : hh r (j + 1) = hh r j + (if r[j] then 1 else -1) := hh_succ (List.getElem?_eq_getElem h)
theorem go_pickI {b : Bool} {n m : Int} {R : Int → Prop} (q : R (if b then m else n)) : ∃ k : Bool, V.int (if b then 1 else 0) = .int (if k then 1 else 0) ∧ ∃ j, (if k then V.int m else V.int n) = .int j ∧ R j := ⟨b, rfl, _, by cases b <;> rfl, q⟩
structure SpotAt (ps : List (List Bool)) (r : List Bool) (k i o : Nat) : Prop where
  pc : ∃ x, ps[i]? = some x ∧ o < x.length
  up : r[cum ps i + o]? = some true
  kn : ones (r.take (cum ps i + o)) = k
def sp_Shaped_spot_of (K : PySem.W.Frag) : Sp := mkSp (α := ShArg × Nat) (fun a => [.ref a.1.p, .int a.2]) (fun a H => ShPre K a.1 H ∧ a.2 < ones a.1.r)
  (fun a H v H' => Same H H' ∧ ∃ t i o, v = .ref t ∧ SpotAt a.1.ps a.1.r a.2 i o ∧ H' t = some (.tup [.int (i : Nat), .int (o : Nat), .int (hh a.1.r (cum a.1.ps i + o))]))
theorem sc_Shaped_spot_of : FnScope ["self", "k", "at", "height", "place", "sign"] ["self", "k"] (defScope s_Shaped_spot_of) := ⟨rfl, rfl, rfl, by decide +kernel, rfl, by decide +kernel, by decide +kernel⟩
theorem ok_Shaped_spot_of {P : Program} {w : World} {K : PySem.W.Frag} {mg : Str → Option Value} {base : Heap} (T : Top K mg)  : RdyM P w K mg base "Shaped" "spot_of" 1 ["self", "k"] (sp_Shaped_spot_of K) := by
  refine rdyM T.c_Shaped T.m_Shaped_spot_of T.f_Shaped_spot_of sc_Shaped_spot_of (fun _ => rfl) (fun _ _ _ _ _ _ us hl => match us, hl with | [_, _], _ => rfl) fun cdv A outer s H a Q E hr hp hQ => ⟨_, (pss_cons (ps_set (i := 2) sc_Shaped_spot_of.nd rfl (Or.inl rfl) pe_int)
      (pss_cons (ps_set (i := 3) sc_Shaped_spot_of.nd rfl (Or.inl rfl) pe_int)
      (pss_cons (ps_while PassesOwn.never (pt_cmpR (r := rGe) op_ge (pv 1) (pe_ix (r := rIxT K) ix_tup (pe_ix (r := rIxL K) ix_list (pe_fld (pv 0) rfl) (pv 2) (fun _ _ => rfl)) pe_int (fun _ _ => rfl)) (nomark _)) (pss_cons (ps_aug (i := 1) sc_Shaped_spot_of.nd rfl (Or.inl rfl) (pe_ix (r := rIxT K) ix_tup (pe_ix (r := rIxL K) ix_list (pe_fld (pv 0) rfl) (pv 2) (fun _ _ => rfl)) pe_int (fun _ _ => rfl)) ip_sub)
      (pss_cons (ps_aug (i := 3) sc_Shaped_spot_of.nd rfl (Or.inl rfl) (pe_ix (r := rIxT K) ix_tup (pe_ix (r := rIxL K) ix_list (pe_fld (pv 0) rfl) (pv 2) (fun _ _ => rfl)) pe_int (fun _ _ => rfl)) ip_add)
      (pss_one (ps_aug (i := 2) sc_Shaped_spot_of.nd rfl (Or.inl rfl) pe_int ip_add)))))
      (pss_cons (ps_for PassesOwn.never rfl (pi_enumS rfl T.b_enumerate (pa_cons (pe_ix (r := rIxL K) ix_list (pe_fld (pv 0) rfl) (pv 2) (fun _ _ => rfl)) pa_nil)) (pg_tup rfl (pgs_cons (pg_name (i := 4) sc_Shaped_spot_of.nd rfl (Or.inl rfl)) (pgs_cons (pg_name (i := 5) sc_Shaped_spot_of.nd rfl (Or.inl rfl)) pgs_nil))) (pss_cons (ps_if (PW.pt (pw_and (pt_cmpR (r := rEq) op_eq (pv 5) pe_str (nomark _)) (pw_and1 (pt_cmpR (r := rEq) op_eq (pv 1) pe_int (nomark _))))) (pss_one (ps_ret (pe_tup (pa_cons (pv 2) (pa_cons (pv 4) (pa_cons (pv 3) pa_nil)))))) pss_nil)
      (pss_one (ps_if (pt_cmpR (r := rEq) op_eq (pv 5) pe_str (nomark _)) (pss_cons (ps_aug (i := 1) sc_Shaped_spot_of.nd rfl (Or.inl rfl) pe_int ip_sub)
      (pss_one (ps_aug (i := 3) sc_Shaped_spot_of.nd rfl (Or.inl rfl) pe_int ip_add))) (pss_one (ps_aug (i := 3) sc_Shaped_spot_of.nd rfl (Or.inl rfl) pe_int ip_sub))))))
      (pss_one (ps_ret pe_non)))))), ?_⟩
  obtain ⟨⟨p, al, ps, n, r⟩, k⟩ := a
  obtain ⟨⟨⟨dx, pl, tl, ts, as, h⟩, ok⟩, hk⟩ := hp
  simp only at h ok hk
  have fl := ok.fl
  subst fl
  walk_at "go"
  walk_at "rd"
  refine go_while2 (fun m σ' H' => ∃ i, m = ps.length - i ∧ H' = H ∧ ones (ps.flatten.take (cum ps i)) ≤ k ∧ σ' = [some (.ref p), some (.int ((k : Int) - (ones (ps.flatten.take (cum ps i)) : Nat))), some (.int (i : Nat)), some (.int (hh ps.flatten (cum ps i))), none, none])
    (fun σ' H' => ∃ i x, ps[i]? = some x ∧ H' = H ∧ ones (ps.flatten.take (cum ps i)) ≤ k ∧ k < ones (ps.flatten.take (cum ps i)) + ones x ∧ σ' = [some (.ref p), some (.int ((k : Int) - (ones (ps.flatten.take (cum ps i)) : Nat))), some (.int (i : Nat)), some (.int (hh ps.flatten (cum ps i))), none, none]) ps.length ?_ ?_ ?_
  · refine ⟨0, rfl, rfl, by rw [cum_zero]; exact Nat.zero_le _, ?_⟩
    rw [cum_zero]
    show _ = [some (V.ref p), some (V.int ((k : Int) - ((0 : Nat) : Int))), some (V.int 0), some (V.int 0), none, none]
    rw [Int.natCast_zero, Int.sub_zero]
    rfl
  · rintro D' hnx _ m σ' H' ⟨i, rfl, rfl, hi, rfl⟩
    have hil : i < ps.length := by
      by_cases q : i < ps.length
      · exact q
      · have e : cum ps i = ps.flatten.length := by
          unfold cum
          rw [List.take_of_length_le (by omega)]
        rw [e, List.take_length] at hi
        omega
    obtain ⟨x, hx⟩ := cum_in hil
    obtain ⟨t, ht1, ht2⟩ := h.tot hx
    walk_at "rd"
    refine go_fldK h.ob T.c_Shaped T.n_Shaped_totals sh_totals ?_
    walk_at "rd"
    refine go_ixL h.tt (at_i i rfl ht1) ?_
    walk_at "rd"
    refine go_ixT ht2 (at_i 0 rfl rfl) ?_
    walk_at "rd"
    refine whK_dec (fun q => ?_) (fun q => ?_)
    · walk_at "rd"
      refine go_fldK h.ob T.c_Shaped T.n_Shaped_totals sh_totals ?_
      walk_at "rd"
      refine go_ixL h.tt (at_i i rfl ht1) ?_
      walk_at "rd"
      refine go_ixT ht2 (at_i 0 rfl rfl) ?_
      walk_at "rd"
      refine go_fldK h.ob T.c_Shaped T.n_Shaped_totals sh_totals ?_
      walk_at "rd"
      refine go_ixL h.tt (at_i i rfl ht1) ?_
      walk_at "rd"
      refine go_ixT ht2 (at_i 1 rfl rfl) ?_
      walk_at "rd"
      have e1 := ones_next hx
      have e2 := hh_next hx
      refine ⟨ps.length - (i + 1), by omega, i + 1, rfl, rfl, by omega, ?_⟩
      rw [e2]
      walk_at "se"
    · exact hnx _ _ ⟨i, x, hx, rfl, hi, by omega, rfl⟩
  · rintro σ' H' ⟨i, x, hx, rfl, h1, h2, rfl⟩
    have hxz : x.length ≤ sizeLine := Nat.le_trans (ok.piece hx).2 (by decide)
    walk_at "rd"
    refine go_fldK h.ob T.c_Shaped T.n_Shaped_parts sh_parts ?_
    walk_at "rd"
    refine go_ixL h.pt (at_i i rfl (map_at hx)) ?_
    walk_at "rd"
    refine loop_enS (l := x) (fun pre σ' H2 => Same H' H2 ∧ ones (ps.flatten.take (cum ps i + pre.length)) ≤ k ∧ ∃ x5 x6, σ' = [some (.ref p), some (.int ((k : Int) - (ones (ps.flatten.take (cum ps i + pre.length)) : Nat))), some (.int (i : Nat)), some (.int (hh ps.flatten (cum ps i + pre.length))), x5, x6]) ?_ ?_ ?_
    · exact ⟨Same.refl _, h1, none, none, rfl⟩
    · rintro pre b post σ' H2 H3 e ⟨s2, hi2, x5, x6, rfl⟩ s3
      have hlt : pre.length < x.length := by rw [e]; simp
      have hb : ps.flatten[cum ps i + pre.length]? = some b := by
        rw [piece_at hx hlt, e]
        simp
      have e2 := hh_succ hb
      have e4 : cum ps i + (pre ++ [b]).length = cum ps i + pre.length + 1 := by simp; omega
      have e3 : ones (ps.flatten.take (cum ps i + pre.length + 1)) = ones (ps.flatten.take (cum ps i + pre.length)) + (if b then 1 else 0) := by
        rw [List.take_succ, hb, ones_app]
        cases b <;> rfl
      walk_at "rd"
      cases b with
      | true =>
        walk_at "rd"
        rw [if_pos rfl] at e2 e3
        refine ifB_dec (fun q => ?_) (fun q => ?_)
        · walk_at "rd"
          refine go_newT (by walk_at "sz") fun t H4 n4 s4 h4 => ?_
          exact hQ _ _ ⟨(s2.trans s3).trans s4, t, i, pre.length, rfl, ⟨⟨x, hx, hlt⟩, hb, by show ones (ps.flatten.take (cum ps i + pre.length)) = k; omega⟩, h4⟩
        · walk_at "rd"
          refine ⟨s2.trans s3, by rw [e4]; omega, _, _, by rw [e4, e2, e3]; walk_at "se"⟩
      | false =>
        rw [if_neg Bool.false_ne_true] at e2 e3
        walk_at "rd"
        refine ⟨s2.trans s3, by rw [e4]; omega, _, _, by rw [e4, e2, e3]; walk_at "se"⟩
    · rintro σ' H2 ⟨s2, hi2, x5, x6, rfl⟩
      have := ones_piece hx (Nat.le_refl x.length)
      rw [List.take_length] at this
      omega
structure ClosePre (K : PySem.W.Frag) (a : ShArg) (i o z : Nat) (H : Hp) : Prop where
  sh : ShPre K a H
  pc : ∃ x, a.ps[i]? = some x ∧ o < x.length
  le : cum a.ps i + o ≤ z
  lt : z < a.r.length
  up : ∀ j, cum a.ps i + o < j → j ≤ z → hh a.r (cum a.ps i + o) < hh a.r j
  dn : hh a.r (z + 1) = hh a.r (cum a.ps i + o)
def sp_Shaped_closing_from (K : PySem.W.Frag) : Sp := mkSp (α := ShArg × Nat × Nat × Nat) (fun a => [.ref a.1.p, .int a.2.1, .int a.2.2.1, .int (hh a.1.r (cum a.1.ps a.2.1 + a.2.2.1))]) (fun a H => ClosePre K a.1 a.2.1 a.2.2.1 a.2.2.2 H)
  (fun a H v H' => Same H H' ∧ ∃ t i o, v = .ref t ∧ cum a.1.ps i + o = a.2.2.2 ∧ H' t = some (.tup [.int (i : Nat), .int (o : Nat)]))
theorem sc_Shaped_closing_from : FnScope ["self", "at", "place", "height", "now", "sign_place", "sign"] ["self", "at", "place", "height"] (defScope s_Shaped_closing_from) := ⟨rfl, rfl, rfl, by decide +kernel, rfl, by decide +kernel, by decide +kernel⟩
theorem ok_Shaped_closing_from {P : Program} {w : World} {K : PySem.W.Frag} {mg : Str → Option Value} {base : Heap} (T : Top K mg)  : RdyM P w K mg base "Shaped" "closing_from" 1 ["self", "at", "place", "height"] (sp_Shaped_closing_from K) := by
  refine rdyM T.c_Shaped T.m_Shaped_closing_from T.f_Shaped_closing_from sc_Shaped_closing_from (fun _ => rfl) (fun _ _ _ _ _ _ us hl => match us, hl with | [_, _, _, _], _ => rfl) fun cdv A outer s H a Q E hr hp hQ => ⟨_, (pss_cons (ps_set (i := 4) sc_Shaped_closing_from.nd rfl (Or.inl rfl) (pv 3))
      (pss_cons (ps_for PassesOwn.never rfl (pi_range2 rfl T.b_range (pa_cons (pv 2) (pa_cons (pe_callB (r := cLenS) call_len_str rfl T.b_len (by decide +kernel) (pa_cons (pe_ix (r := rIxL K) ix_list (pe_fld (pv 0) rfl) (pv 1) (fun _ _ => rfl)) pa_nil)) pa_nil))) (pg_name (i := 5) sc_Shaped_closing_from.nd rfl (Or.inl rfl)) (pss_cons (ps_aug (i := 4) sc_Shaped_closing_from.nd rfl (Or.inl rfl) (pe_pick (pe_un (r := rNegI) un_neg pe_int) pe_int (pe_callTy (r := cInt) call_int1 rfl T.b_int (by decide +kernel) (pa_cons (pe_cmpR (r := rEq) op_eq (pe_ix (r := rIxS) ix_str (pe_ix (r := rIxL K) ix_list (pe_fld (pv 0) rfl) (pv 1) (fun _ _ => rfl)) (pv 5) (fun _ _ => rfl)) pe_str (nomark _)) pa_nil))) ip_add)
      (pss_one (ps_if (pt_cmpR (r := rEq) op_eq (pv 4) (pv 3) (nomark _)) (pss_one (ps_ret (pe_tup (pa_cons (pv 1) (pa_cons (pv 5) pa_nil))))) pss_nil))))
      (pss_cons (ps_aug (i := 1) sc_Shaped_closing_from.nd rfl (Or.inl rfl) pe_int ip_add)
      (pss_cons (ps_while PassesOwn.never (pt_cmpR (r := rGt) op_gt (pe_op (r := rAddI) op_add (pv 4) (pe_ix (r := rIxT K) ix_tup (pe_ix (r := rIxL K) ix_list (pe_fld (pv 0) rfl) (pv 1) (fun _ _ => rfl)) pe_int (fun _ _ => rfl))) (pv 3) (nomark _)) (pss_cons (ps_aug (i := 4) sc_Shaped_closing_from.nd rfl (Or.inl rfl) (pe_ix (r := rIxT K) ix_tup (pe_ix (r := rIxL K) ix_list (pe_fld (pv 0) rfl) (pv 1) (fun _ _ => rfl)) pe_int (fun _ _ => rfl)) ip_add)
      (pss_one (ps_aug (i := 1) sc_Shaped_closing_from.nd rfl (Or.inl rfl) pe_int ip_add))))
      (pss_cons (ps_for PassesOwn.never rfl (pi_enumS rfl T.b_enumerate (pa_cons (pe_ix (r := rIxL K) ix_list (pe_fld (pv 0) rfl) (pv 1) (fun _ _ => rfl)) pa_nil)) (pg_tup rfl (pgs_cons (pg_name (i := 5) sc_Shaped_closing_from.nd rfl (Or.inl rfl)) (pgs_cons (pg_name (i := 6) sc_Shaped_closing_from.nd rfl (Or.inl rfl)) pgs_nil))) (pss_cons (ps_aug (i := 4) sc_Shaped_closing_from.nd rfl (Or.inl rfl) (pe_pick (pe_un (r := rNegI) un_neg pe_int) pe_int (pe_callTy (r := cInt) call_int1 rfl T.b_int (by decide +kernel) (pa_cons (pe_cmpR (r := rEq) op_eq (pv 6) pe_str (nomark _)) pa_nil))) ip_add)
      (pss_one (ps_if (pt_cmpR (r := rEq) op_eq (pv 4) (pv 3) (nomark _)) (pss_one (ps_ret (pe_tup (pa_cons (pv 1) (pa_cons (pv 5) pa_nil))))) pss_nil))))
      (pss_one (ps_ret pe_non))))))), ?_⟩
  obtain ⟨⟨p, al, ps, n, r⟩, i, o, z⟩ := a
  obtain ⟨⟨⟨dx, pl, tl, ts, as, h⟩, ok⟩, ⟨x, hx, ho⟩, hle, hlt, hup, hdn⟩ := hp
  simp only at h ok hx ho hle hlt hup hdn
  have fl := ok.fl
  subst fl
  have hxz : x.length ≤ sizeLine := Nat.le_trans (ok.piece hx).2 (by decide)
  have hx2 := (ok.piece hx).2
  walk_at "go"
  walk_at "rd"
  refine go_fldK h.ob T.c_Shaped T.n_Shaped_parts sh_parts ?_
  walk_at "rd"
  refine go_ixL h.pt (at_i i rfl (map_at hx)) ?_
  walk_at "rd"
  refine go_rng2 (by omega) ?_
  have ek : ((x.length : Int) - (o : Int)).toNat = x.length - o := by omega
  rw [ek]
  refine loop_rng (fun c σ' H' => H' = H ∧ cum ps i + o + c ≤ z ∧ ∃ x5 x6, σ' = [some (.ref p), some (.int (i : Nat)), some (.int (o : Nat)), some (.int (hh ps.flatten (cum ps i + o))), some (.int (hh ps.flatten (cum ps i + o + c))), x5, x6]) ?_ ?_ ?_
  · exact ⟨rfl, hle, none, none, rfl⟩
  · rintro c σ' H' hc ⟨rfl, hz, x5, x6, rfl⟩
    have eo : (o : Int) + (c : Int) = ((o + c : Nat) : Int) := by omega
    rw [eo]
    have hoc : o + c < x.length := by omega
    have hb : ps.flatten[cum ps i + o + c]? = some x[o + c] := by
      rw [Nat.add_assoc, piece_at hx hoc, List.getElem?_eq_getElem hoc]
    have e2 := hh_succ hb
    walk_at "rd"
    refine go_fldK h.ob T.c_Shaped T.n_Shaped_parts sh_parts ?_
    walk_at "rd"
    refine go_ixL h.pt (at_i i rfl (map_at hx)) ?_
    walk_at "rd"
    refine go_ixS hxz (at_i (o + c) rfl (List.getElem?_eq_getElem hoc)) ?_
    generalize x[o + c] = b at hb e2
    have fin : ∀ d : Int, d = (if b then 1 else -1) → (ifB (decide (hh ps.flatten (cum ps i + o + c) + d = hh ps.flatten (cum ps i + o))) (cum ps i + o + c = z) (cum ps i + o + c + 1 ≤ z)) := fun d hd => by
      rw [hd, ← e2]
      by_cases q : cum ps i + o + c = z
      · rw [q, hdn, decide_eq_true rfl]
        exact rfl
      · have := hup (cum ps i + o + c + 1) (by omega) (by omega)
        rw [decide_eq_false (by omega)]
        refine ifB_f ?_
        omega
    walk_at "rd"
    refine go_pickI ?_
    cases b with
    | true =>
      have f := fin 1 rfl
      rw [if_pos rfl]
      walk_at "rd"
      refine ifB_of (fun q => ?_) (fun q => ?_)
      · rw [q] at f
        walk_at "rd"
        refine go_newT (by walk_at "sz") fun t H4 n4 s4 h4 => ?_
        exact hQ _ _ ⟨s4, t, i, o + c, rfl, by show cum ps i + (o + c) = z; rw [← Nat.add_assoc]; exact f, h4⟩
      · rw [q] at f
        walk_at "rd"
        have f2 := ifB_out f
        exact ⟨rfl, by omega, _, _, by rw [← Nat.add_assoc, e2]; walk_at "se"⟩
    | false =>
      have f := fin (-1) rfl
      rw [if_neg Bool.false_ne_true]
      walk_at "rd"
      refine ifB_of (fun q => ?_) (fun q => ?_)
      · rw [q] at f
        walk_at "rd"
        refine go_newT (by walk_at "sz") fun t H4 n4 s4 h4 => ?_
        exact hQ _ _ ⟨s4, t, i, o + c, rfl, by show cum ps i + (o + c) = z; rw [← Nat.add_assoc]; exact f, h4⟩
      · rw [q] at f
        walk_at "rd"
        have f2 := ifB_out f
        exact ⟨rfl, by omega, _, _, by rw [← Nat.add_assoc, e2]; walk_at "se"⟩
  · rintro σ' H' ⟨rfl, hz, x5, x6, rfl⟩
    have ec : cum ps i + o + (x.length - o) = cum ps (i + 1) := by
      rw [cum_succ hx]
      omega
    rw [ec] at hz ⊢
    walk_at "rd"
    refine go_while2 (fun m σ' H2 => ∃ j, m = ps.length - j ∧ H2 = H' ∧ i < j ∧ cum ps j ≤ z ∧ σ' = [some (.ref p), some (.int (j : Nat)), some (.int (o : Nat)), some (.int (hh ps.flatten (cum ps i + o))), some (.int (hh ps.flatten (cum ps j))), x5, x6])
      (fun σ' H2 => ∃ j x, ps[j]? = some x ∧ H2 = H' ∧ i < j ∧ cum ps j ≤ z ∧ z < cum ps (j + 1) ∧ σ' = [some (.ref p), some (.int (j : Nat)), some (.int (o : Nat)), some (.int (hh ps.flatten (cum ps i + o))), some (.int (hh ps.flatten (cum ps j))), x5, x6]) (ps.length - (i + 1)) ?_ ?_ ?_
    · exact ⟨i + 1, rfl, rfl, by omega, hz, by walk_at "se"⟩
    · rintro D' hnx _ m σ' H2 ⟨j, rfl, rfl, hij, hj, rfl⟩
      obtain ⟨y, hy⟩ := cum_in (cum_lt_len hlt hj)
      obtain ⟨t, ht1, ht2⟩ := h.tot hy
      have hy1 := (ok.piece hy).1
      have hjl := cum_lt_len hlt hj
      have hcs := cum_succ hy
      have hcq : cum ps i + o < cum ps j := by
        have := cum_mono ps (i := i + 1) (j := j) hij
        rw [cum_succ hx] at this
        omega
      walk_at "rd"
      refine go_fldK h.ob T.c_Shaped T.n_Shaped_totals sh_totals ?_
      walk_at "rd"
      refine go_ixL h.tt (at_i j rfl ht1) ?_
      walk_at "rd"
      refine go_ixT ht2 (at_i 2 rfl rfl) ?_
      walk_at "rd"
      refine whK_dec (fun q => ?_) (fun q => ?_)
      · walk_at "rd"
        refine go_fldK h.ob T.c_Shaped T.n_Shaped_totals sh_totals ?_
        walk_at "rd"
        refine go_ixL h.tt (at_i j rfl ht1) ?_
        walk_at "rd"
        refine go_ixT ht2 (at_i 1 rfl rfl) ?_
        walk_at "rd"
        refine ⟨ps.length - (j + 1), by omega, j + 1, rfl, rfl, by omega, ?_, ?_⟩
        · by_cases q2 : cum ps (j + 1) ≤ z
          · exact q2
          · have e5 := hh_piece hy (m := z + 1 - cum ps j) (by omega)
            have e6 : cum ps j + (z + 1 - cum ps j) = z + 1 := by omega
            rw [e6, hdn] at e5
            have := lst_low y (z + 1 - cum ps j) (by omega) (by omega)
            omega
        · rw [hh_next hy]
          walk_at "se"
      · refine hnx _ _ ⟨j, y, hy, rfl, hij, hj, ?_, rfl⟩
        obtain ⟨m, m1, m2, m3⟩ := lst_some y (fun e => by rw [e] at hy1; simp at hy1)
        have e5 := hh_piece hy m2
        by_cases q2 : z < cum ps (j + 1)
        · exact q2
        · have := hup (cum ps j + m) (by omega) (by omega)
          omega
    · rintro σ' H2 ⟨j, y, hy, rfl, hij, hj, hz2, rfl⟩
      have hyz : y.length ≤ sizeLine := Nat.le_trans (ok.piece hy).2 (by decide)
      have hcq : cum ps i + o < cum ps j := by
        have := cum_mono ps (i := i + 1) (j := j) hij
        rw [cum_succ hx] at this
        omega
      walk_at "rd"
      refine go_fldK h.ob T.c_Shaped T.n_Shaped_parts sh_parts ?_
      walk_at "rd"
      refine go_ixL h.pt (at_i j rfl (map_at hy)) ?_
      walk_at "rd"
      refine loop_enS (l := y) (fun pre σ' H3 => Same H2 H3 ∧ cum ps j + pre.length ≤ z ∧ ∃ x5 x6, σ' = [some (.ref p), some (.int (j : Nat)), some (.int (o : Nat)), some (.int (hh ps.flatten (cum ps i + o))), some (.int (hh ps.flatten (cum ps j + pre.length))), x5, x6]) ?_ ?_ ?_
      · exact ⟨Same.refl _, hj, _, _, rfl⟩
      · rintro pre b post σ' H3 H4 e ⟨s2, hz3, x5, x6, rfl⟩ s3
        have hlt2 : pre.length < y.length := by rw [e]; simp
        have hb : ps.flatten[cum ps j + pre.length]? = some b := by
          rw [piece_at hy hlt2, e]
          simp
        have e2 := hh_succ hb
        have e4 : cum ps j + (pre ++ [b]).length = cum ps j + pre.length + 1 := by simp; omega
        have fin : ∀ d : Int, d = (if b then 1 else -1) → (ifB (decide (hh ps.flatten (cum ps j + pre.length) + d = hh ps.flatten (cum ps i + o))) (cum ps j + pre.length = z) (cum ps j + pre.length + 1 ≤ z)) := fun d hd => by
          rw [hd, ← e2]
          by_cases q : cum ps j + pre.length = z
          · rw [q, hdn, decide_eq_true rfl]
            exact rfl
          · have := hup (cum ps j + pre.length + 1) (by omega) (by omega)
            rw [decide_eq_false (by omega)]
            refine ifB_f ?_
            omega
        walk_at "rd"
        refine go_pickI ?_
        cases b with
        | true =>
          have f := fin 1 rfl
          rw [if_pos rfl]
          walk_at "rd"
          refine ifB_of (fun q => ?_) (fun q => ?_)
          · rw [q] at f
            walk_at "rd"
            refine go_newT (by walk_at "sz") fun t H5 n5 s5 h5 => ?_
            exact hQ _ _ ⟨(s2.trans s3).trans s5, t, j, pre.length, rfl, f, h5⟩
          · rw [q] at f
            have f2 := ifB_out f
            walk_at "rd"
            refine ⟨s2.trans s3, by omega, _, _, by rw [e4, e2]; walk_at "se"⟩
        | false =>
          have f := fin (-1) rfl
          rw [if_neg Bool.false_ne_true]
          walk_at "rd"
          refine ifB_of (fun q => ?_) (fun q => ?_)
          · rw [q] at f
            walk_at "rd"
            refine go_newT (by walk_at "sz") fun t H5 n5 s5 h5 => ?_
            exact hQ _ _ ⟨(s2.trans s3).trans s5, t, j, pre.length, rfl, f, h5⟩
          · rw [q] at f
            have f2 := ifB_out f
            walk_at "rd"
            refine ⟨s2.trans s3, by omega, _, _, by rw [e4, e2]; walk_at "se"⟩
      · rintro σ' H3 ⟨s2, hz3, x5, x6, rfl⟩
        rw [cum_succ hy] at hz2
        omega

end
section
/-- one step of a reading; as many as go -/
local macro_rules | `(tactic| walk_at "st") => `(tactic| first
  | with_reducible refine go_seq ?_ | with_reducible refine go_asg ?_ | with_reducible refine go_gname ?_ | ((with_reducible refine go_var (v := ?vv) ?hv ?_); (case hv => rfl)) | with_reducible refine go_c ?_ | with_reducible refine go_op ?_
  | with_reducible refine go_add ?_ | with_reducible refine go_sub ?_ | with_reducible refine go_cb ?_ | with_reducible refine go_cons ?_ | with_reducible refine go_nil ?_ | with_reducible refine go_test ?_ | with_reducible refine go_isB ?_
  | with_reducible refine go_if ?_ | with_reducible refine go_lt ?_ | with_reducible refine go_le ?_ | with_reducible refine go_gt ?_ | with_reducible refine go_ge ?_ | with_reducible refine go_eqI ?_ | with_reducible refine go_neI ?_
  | with_reducible refine go_eq1 ?_ | with_reducible refine go_un ?_ | with_reducible refine go_neg ?_ | with_reducible refine go_tand ?_ | with_reducible refine go_tor ?_ | with_reducible refine go_tnot ?_ | with_reducible refine ifB_t ?_ | with_reducible refine ifB_f ?_ | with_reducible refine ifB_nf ?_ | with_reducible refine ifB_nt ?_
  | with_reducible refine go_andV ?_ | with_reducible refine go_orV ?_ | with_reducible refine go_notV ?_ | with_reducible refine go_chain ?_ | with_reducible refine go_tB ?_ | with_reducible refine go_nilt ?_
  | with_reducible refine go_ret ?_ | with_reducible refine go_retN ?_ | with_reducible refine go_next ?_ | with_reducible refine go_drop ?_ | with_reducible refine go_brk ?_ | with_reducible refine go_ct ?_
  | ((with_reducible refine go_aug (n := ?nn) ?ha ?_); (case ha => rfl)) | with_reducible refine go_augi ?_ | with_reducible refine go_lst ?_ | with_reducible refine go_tup ?_ | with_reducible refine go_pick ?_ | with_reducible refine go_picked ?_
  | with_reducible refine go_sl ?_ | with_reducible refine go_nopart ?_ | with_reducible refine go_part ?_ | with_reducible refine go_parti ?_ | with_reducible refine go_isN ?_ | with_reducible refine go_notN ?_ | with_reducible refine go_inS ?_ | with_reducible refine go_notInS ?_
  | with_reducible refine go_max2 ?_ | with_reducible refine go_min2 ?_ | with_reducible refine go_intB ?_ | with_reducible refine go_abs ?_ | with_reducible refine go_cl ?_ | with_reducible refine go_mt ?_ | with_reducible refine go_fld ?_
  | with_reducible refine go_bm ?_ | with_reducible refine go_bm0 ?_ | with_reducible refine ty_str ?_ | ((with_reducible refine ty_lst (xs := ?xx) ?ht ?_); (case ht => assumption))
  | with_reducible refine go_for ?_ | with_reducible refine go_iStr ?_ | with_reducible refine go_strK ?_ | with_reducible refine go_iList ?_ | with_reducible refine go_iEnS ?_ | with_reducible refine go_enSK ?_ | with_reducible refine go_iEnL ?_
  | with_reducible refine go_iR1 ?_ | with_reducible refine go_iR2 ?_ | with_reducible refine go_iR3 ?_ | with_reducible refine go_lc ?_
  | ((with_reducible refine go_div ?hc ?_); (case hc => decide)) | ((with_reducible refine go_mod ?hc ?_); (case hc => decide)) | ((with_reducible refine go_shr ?hc ?_); (case hc => decide)) | with_reducible refine go_and ?_ | with_reducible refine go_or ?_
  | ((with_reducible refine go_lenS ?hz ?_); (case hz => assumption)) | ((with_reducible refine go_lenL (xs := ?xx) ?hz ?_); (case hz => assumption)) | with_reducible refine go_sfld ?_ | with_reducible refine go_mk ?_ | with_reducible refine go_isiII ?_ | with_reducible refine go_isiIB ?_ | with_reducible refine go_isiSS ?_ | with_reducible refine go_gcons ?_ | with_reducible refine go_gnil ?_ | with_reducible refine go_and ?_ | with_reducible refine go_intS ?_ | with_reducible refine go_slT ?_ | with_reducible refine go_iTup ?_ | ((with_reducible refine go_mul ?hc ?_); (case hc => exact .inl ⟨by decide, by decide⟩)))
local macro_rules | `(tactic| walk_at "rd") => `(tactic| repeat walk_at "st")
local macro_rules | `(tactic| walk_at "go") => `(tactic| dsimp only [cxOf, Cx.nox, Cx.wish, L2.start, List.map, List.length_cons, List.length_nil, List.replicate, Nat.reduceAdd, Nat.reduceSub, List.cons_append, List.nil_append])
local macro_rules | `(tactic| walk_at "sz") => `(tactic| (refine Nat.le_trans (m := 100000) ?_ (by decide); first | (simp only [List.length_cons, List.length_nil, List.length_append, List.length_map]; omega) | omega))
/-- two lists of slots are the same -/
local macro_rules | `(tactic| walk_at "se") => `(tactic| ((try dsimp only [List.set]); (repeat' (first | rfl | refine congr (congrArg List.cons ?_) ?_ | refine congrArg (fun z => some (V.int z)) ?_)); (try omega)))
/-! ## back to an elder -/
structure BackPre (K : PySem.W.Frag) (a : ShArg) (i o w : Nat) (H : Hp) : Prop where
  sh : ShPre K a H
  pc : ∃ x, a.ps[i]? = some x ∧ o ≤ x.length
  lt : w < cum a.ps i + o
  op : a.r[w]? = some true
  at_w : hh a.r w = hh a.r (cum a.ps i + o) - 1
  up : ∀ j, w < j → j ≤ cum a.ps i + o → hh a.r (cum a.ps i + o) ≤ hh a.r j
def sp_Shaped_back_to (K : PySem.W.Frag) : Sp := mkSp (α := ShArg × Nat × Nat × Nat) (fun a => [.ref a.1.p, .int a.2.1, .int a.2.2.1, .int (hh a.1.r (cum a.1.ps a.2.1 + a.2.2.1)), .int (hh a.1.r (cum a.1.ps a.2.1 + a.2.2.1) - 1)])
  (fun a H => BackPre K a.1 a.2.1 a.2.2.1 a.2.2.2 H) (fun a H v H' => Same H H' ∧ v = .int (ones (a.1.r.take a.2.2.2)))
theorem sc_Shaped_back_to : FnScope ["self", "at", "place", "height", "goal", "part", "sign_place"] ["self", "at", "place", "height", "goal"] (defScope s_Shaped_back_to) := ⟨rfl, rfl, rfl, by decide +kernel, rfl, by decide +kernel, by decide +kernel⟩
theorem ok_Shaped_back_to {P : Program} {w : World} {K : PySem.W.Frag} {mg : Str → Option Value} {base : Heap} (T : Top K mg) (R_Shaped_knot_at : RdyM P w K mg base "Shaped" "knot_at" 1 ["self", "at", "place"] (sp_Shaped_knot_at K)) : RdyM P w K mg base "Shaped" "back_to" 2 ["self", "at", "place", "height", "goal"] (sp_Shaped_back_to K) := by
  refine rdyM T.c_Shaped T.m_Shaped_back_to T.f_Shaped_back_to sc_Shaped_back_to (fun _ => rfl) (fun _ _ _ _ _ _ us hl => match us, hl with | [_, _, _, _, _], _ => rfl) fun cdv A outer s H a Q E hr hp hQ => ⟨_, (pss_cons (ps_while PassesOwn.never (pt_cmpR (r := rGe) op_ge (pv 1) pe_int (nomark _)) (pss_cons (ps_set (i := 5) sc_Shaped_back_to.nd rfl (Or.inl rfl) (pe_ix (r := rIxL K) ix_list (pe_fld (pv 0) rfl) (pv 1) (fun _ _ => rfl)))
      (pss_cons (ps_if (PW.pt (pw_and (pt_cmpR (r := rEq) op_eq (pv 2) (pe_callB (r := cLenS) call_len_str rfl T.b_len (by decide +kernel) (pa_cons (pv 5) pa_nil)) (nomark _)) (pw_and1 (pt_cmpR (r := rGt) op_gt (pe_op (r := rAddI) op_add (pe_op (r := rSubI) op_sub (pv 3) (pe_ix (r := rIxT K) ix_tup (pe_ix (r := rIxL K) ix_list (pe_fld (pv 0) rfl) (pv 1) (fun _ _ => rfl)) pe_int (fun _ _ => rfl))) (pe_callB (r := cMin2) (call_min2 rfl) rfl T.b_min (by decide +kernel) (pa_cons pe_int (pa_cons (pe_ix (r := rIxT K) ix_tup (pe_ix (r := rIxL K) ix_list (pe_fld (pv 0) rfl) (pv 1) (fun _ _ => rfl)) pe_int (fun _ _ => rfl)) pa_nil)))) (pv 4) (nomark _))))) (pss_one (ps_aug (i := 3) sc_Shaped_back_to.nd rfl (Or.inl rfl) (pe_ix (r := rIxT K) ix_tup (pe_ix (r := rIxL K) ix_list (pe_fld (pv 0) rfl) (pv 1) (fun _ _ => rfl)) pe_int (fun _ _ => rfl)) ip_sub)) (pss_one (ps_for PassesOwn.never rfl (pi_range3 rfl T.b_range (pa_cons (pe_op (r := rSubI) op_sub (pv 2) pe_int) (pa_cons (pe_un (r := rNegI) un_neg pe_int) (pa_cons (pe_un (r := rNegI) un_neg pe_int) pa_nil)))) (pg_name (i := 6) sc_Shaped_back_to.nd rfl (Or.inl rfl)) (pss_cons (ps_aug (i := 3) sc_Shaped_back_to.nd rfl (Or.inl rfl) (pe_pick (pe_un (r := rNegI) un_neg pe_int) pe_int (pe_callTy (r := cInt) call_int1 rfl T.b_int (by decide +kernel) (pa_cons (pe_cmpR (r := rEq) op_eq (pe_ix (r := rIxS) ix_str (pv 5) (pv 6) (fun _ _ => rfl)) pe_str (nomark _)) pa_nil))) ip_sub)
      (pss_one (ps_if (PW.pt (pw_and (pt_cmpR (r := rEq) op_eq (pe_ix (r := rIxS) ix_str (pv 5) (pv 6) (fun _ _ => rfl)) pe_str (nomark _)) (pw_and1 (pt_cmpR (r := rEq) op_eq (pv 3) (pv 4) (nomark _))))) (pss_one (ps_ret (pe_m R_Shaped_knot_at (hr.mono (by decide)) (pv 0) (pa_cons (pv 1) (pa_cons (pv 6) pa_nil))))) pss_nil))))))
      (pss_cons (ps_aug (i := 1) sc_Shaped_back_to.nd rfl (Or.inl rfl) pe_int ip_sub)
      (pss_one (ps_set (i := 2) sc_Shaped_back_to.nd rfl (Or.inl rfl) (pe_callB (r := cLenS) call_len_str rfl T.b_len (by decide +kernel) (pa_cons (pe_ix (r := rIxL K) ix_list (pe_fld (pv 0) rfl) (pv 1) (fun _ _ => rfl)) pa_nil))))))))
      (pss_one (ps_ret pe_non))), ?_⟩
  obtain ⟨⟨p, al, ps, n, r⟩, i, o, w⟩ := a
  obtain ⟨hS, ⟨x, hx, ho⟩, hlt, hop, hat, hup⟩ := hp
  simp only at hS hx ho hlt hop hat hup
  obtain ⟨⟨dx, pl, tl, ts, as, h⟩, ok⟩ := id hS
  simp only at h ok
  have fl := ok.fl
  subst fl
  generalize hg : hh ps.flatten (cum ps i + o) = top at *
  walk_at "go"
  refine go_while2 (fun m σ' H' => ∃ i' o' y, m = i' ∧ H' = H ∧ ps[i']? = some y ∧ o' ≤ y.length ∧ w < cum ps i' + o' ∧ cum ps i' + o' ≤ cum ps i + o ∧ ∃ x5 x6, σ' = [some (.ref p), some (.int (i' : Nat)), some (.int (o' : Nat)), some (.int (hh ps.flatten (cum ps i' + o'))), some (.int (top - 1)), x5, x6])
    (fun σ' H' => False) i ?_ ?_ (fun _ _ f => f.elim)
  · exact ⟨i, o, x, rfl, rfl, hx, ho, hlt, Nat.le_refl _, none, none, by rw [hg]⟩
  · rintro D' _ hrt m σ' H' ⟨i', o', y, rfl, rfl, hy, ho', hlt', hle', x5, x6, rfl⟩
    have hyz : y.length ≤ sizeLine := Nat.le_trans (ok.piece hy).2 (by decide)
    have hy1 := (ok.piece hy).1
    have hy2 := (ok.piece hy).2
    obtain ⟨t, ht1, ht2⟩ := h.tot hy
    walk_at "rd"
    rw [decide_eq_true (show (0 : Int) ≤ (m : Int) by omega)]
    refine whK_t ?_
    walk_at "rd"
    refine go_fldK h.ob T.c_Shaped T.n_Shaped_parts sh_parts ?_
    walk_at "rd"
    refine go_ixL h.pt (at_i m rfl (map_at hy)) ?_
    refine go_gname ?_
    with_reducible refine go_join2 (fun σ' H2 => H2 = H' ∧ w < cum ps m ∧ ∃ o2 x5 x6, σ' = [some (.ref p), some (.int (m : Nat)), o2, some (.int (hh ps.flatten (cum ps m))), some (.int (top - 1)), x5, x6]) (fun D2 hnx2 hrt2 _ _ => ?_) ?_
    · walk_at "rd"
      refine ifB_of (fun q1 => ?_) (fun q1 => ?_)
      · walk_at "rd"
        refine go_fldK h.ob T.c_Shaped T.n_Shaped_totals sh_totals ?_
        walk_at "rd"
        refine go_ixL h.tt (at_i m rfl ht1) ?_
        walk_at "rd"
        refine go_ixT ht2 (at_i 1 rfl rfl) ?_
        walk_at "rd"
        refine go_fldK h.ob T.c_Shaped T.n_Shaped_totals sh_totals ?_
        walk_at "rd"
        refine go_ixL h.tt (at_i m rfl ht1) ?_
        walk_at "rd"
        refine go_ixT ht2 (at_i 2 rfl rfl) ?_
        walk_at "rd"
        refine ifB_dec (fun q2 => ?_) (fun q2 => ?_)
        · walk_at "rd"
          refine go_fldK h.ob T.c_Shaped T.n_Shaped_totals sh_totals ?_
          walk_at "rd"
          refine go_ixL h.tt (at_i m rfl ht1) ?_
          walk_at "rd"
          refine go_ixT ht2 (at_i 1 rfl rfl) ?_
          walk_at "rd"
          have q1' : o' = y.length := by have := of_decide_eq_true q1; omega
          subst q1'
          have e1 := hh_piece hy (Nat.le_refl y.length)
          rw [List.take_length] at e1
          refine hnx2 _ _ ⟨rfl, ?_, some (.int (y.length : Nat)), some (vr y), x6, ?_⟩
          · by_cases q3 : w < cum ps m
            · exact q3
            · have e4 := hh_piece hy (m := w - cum ps m) (by omega)
              have e5 : cum ps m + (w - cum ps m) = w := by omega
              rw [e5, hat] at e4
              by_cases q4 : w = cum ps m
              · rw [q4, Nat.sub_self, List.take_zero] at e4
                have : ht [] = 0 := rfl
                omega
              · have := lst_low y (w - cum ps m) (by omega) (by omega)
                omega
          · have e6 : hh ps.flatten (cum ps m + y.length) - ht y = hh ps.flatten (cum ps m) := by omega
            rw [e6]
            walk_at "se"
        · skip
          walk_at "rd"
          refine go_rng3d (by omega) ?_
          have ek : ((o' : Int) - 1 + 1).toNat = o' := by omega
          rw [ek]
          refine loop_rngC (fun c σ' H2 => H2 = H' ∧ w < cum ps m + o' - c ∧ ∃ x6, σ' = [some (.ref p), some (.int (m : Nat)), some (.int (o' : Nat)), some (.int (hh ps.flatten (cum ps m + o' - c))), some (.int (top - 1)), some (vr y), x6]) ?_ ?_ ?_
          · exact ⟨rfl, hlt', _, rfl⟩
          · rintro c σ' H2 hc ⟨rfl, hwc, x6, rfl⟩
            have eo : (o' : Int) - 1 + (c : Int) * -1 = ((o' - 1 - c : Nat) : Int) := by omega
            rw [eo]
            have hoc : o' - 1 - c < y.length := by omega
            have ej : cum ps m + o' - c = cum ps m + (o' - 1 - c) + 1 := by omega
            have ej2 : cum ps m + o' - (c + 1) = cum ps m + (o' - 1 - c) := by omega
            have hb : ps.flatten[cum ps m + (o' - 1 - c)]? = some y[o' - 1 - c] := by
              rw [piece_at hy hoc, List.getElem?_eq_getElem hoc]
            have e2 := hh_succ hb
            rw [← ej] at e2
            have fin : y[o' - 1 - c] = true → hh ps.flatten (cum ps m + (o' - 1 - c)) = top - 1 → cum ps m + (o' - 1 - c) = w := fun _ q => by
              by_cases q3 : w < cum ps m + (o' - 1 - c)
              · have := hup _ q3 (by omega)
                omega
              · omega
            have fin2 : ¬ (y[o' - 1 - c] = true ∧ hh ps.flatten (cum ps m + (o' - 1 - c)) = top - 1) → w < cum ps m + (o' - 1 - c) := fun q => by
              by_cases q3 : cum ps m + (o' - 1 - c) = w
              · refine absurd ⟨?_, ?_⟩ q
                · rw [q3, hop] at hb
                  exact (Option.some.inj hb).symm
                · rw [q3, hat]
              · omega
            walk_at "rd"
            refine go_ixS hyz (at_i (o' - 1 - c) rfl (List.getElem?_eq_getElem hoc)) ?_
            have hyb := List.getElem?_eq_getElem hoc
            generalize y[o' - 1 - c] = b at hb e2 fin fin2 hyb
            walk_at "rd"
            refine go_pickI ?_
            cases b with
            | true =>
              rw [if_pos rfl] at e2 ⊢
              walk_at "rd"
              refine go_ixS hyz (at_i (o' - 1 - c) rfl hyb) ?_
              walk_at "rd"
              refine ifB_dec (fun q4 => ?_) (fun q4 => ?_)
              · walk_at "rd"
                refine go_mtK h.ob (sh_no (by decide +kernel) (by decide +kernel) (by decide +kernel)) ?_
                walk_at "rd"
                refine ⟨(⟨p, al, ps, n, ps.flatten⟩, m, o' - 1 - c), rfl, ⟨hS, y, hy, Nat.le_of_lt hoc⟩, ?_⟩
                rintro v H3 ⟨s3, rfl⟩
                refine hrt2 _ _ (hrt _ _ (hQ _ _ ⟨s3, ?_⟩))
                show V.int (ones (ps.flatten.take (cum ps m + (o' - 1 - c))) : Nat) = _
                rw [fin rfl (by omega)]
              · walk_at "rd"
                have f2 := fin2 (fun z => q4 (by omega))
                exact ⟨rfl, by omega, _, by rw [ej2, show hh ps.flatten (cum ps m + o' - c) - 1 = hh ps.flatten (cum ps m + (o' - 1 - c)) by omega]; walk_at "se"⟩
            | false =>
              rw [if_neg Bool.false_ne_true] at e2 ⊢
              walk_at "rd"
              refine go_ixS hyz (at_i (o' - 1 - c) rfl hyb) ?_
              walk_at "rd"
              have f2 := fin2 (fun z => Bool.false_ne_true z.1)
              exact ⟨rfl, by omega, _, by rw [ej2, show hh ps.flatten (cum ps m + o' - c) - -1 = hh ps.flatten (cum ps m + (o' - 1 - c)) by omega]; walk_at "se"⟩
          · rintro σ' H2 ⟨rfl, hwc, x6, rfl⟩
            have e0 : cum ps m + o' - o' = cum ps m := by omega
            rw [e0] at hwc ⊢
            exact hnx2 _ _ ⟨rfl, hwc, _, _, _, rfl⟩
      · skip
        walk_at "rd"
        refine go_rng3d (by omega) ?_
        have ek : ((o' : Int) - 1 + 1).toNat = o' := by omega
        rw [ek]
        refine loop_rngC (fun c σ' H2 => H2 = H' ∧ w < cum ps m + o' - c ∧ ∃ x6, σ' = [some (.ref p), some (.int (m : Nat)), some (.int (o' : Nat)), some (.int (hh ps.flatten (cum ps m + o' - c))), some (.int (top - 1)), some (vr y), x6]) ?_ ?_ ?_
        · exact ⟨rfl, hlt', _, rfl⟩
        · rintro c σ' H2 hc ⟨rfl, hwc, x6, rfl⟩
          have eo : (o' : Int) - 1 + (c : Int) * -1 = ((o' - 1 - c : Nat) : Int) := by omega
          rw [eo]
          have hoc : o' - 1 - c < y.length := by omega
          have ej : cum ps m + o' - c = cum ps m + (o' - 1 - c) + 1 := by omega
          have ej2 : cum ps m + o' - (c + 1) = cum ps m + (o' - 1 - c) := by omega
          have hb : ps.flatten[cum ps m + (o' - 1 - c)]? = some y[o' - 1 - c] := by
            rw [piece_at hy hoc, List.getElem?_eq_getElem hoc]
          have e2 := hh_succ hb
          rw [← ej] at e2
          have fin : y[o' - 1 - c] = true → hh ps.flatten (cum ps m + (o' - 1 - c)) = top - 1 → cum ps m + (o' - 1 - c) = w := fun _ q => by
            by_cases q3 : w < cum ps m + (o' - 1 - c)
            · have := hup _ q3 (by omega)
              omega
            · omega
          have fin2 : ¬ (y[o' - 1 - c] = true ∧ hh ps.flatten (cum ps m + (o' - 1 - c)) = top - 1) → w < cum ps m + (o' - 1 - c) := fun q => by
            by_cases q3 : cum ps m + (o' - 1 - c) = w
            · refine absurd ⟨?_, ?_⟩ q
              · rw [q3, hop] at hb
                exact (Option.some.inj hb).symm
              · rw [q3, hat]
            · omega
          walk_at "rd"
          refine go_ixS hyz (at_i (o' - 1 - c) rfl (List.getElem?_eq_getElem hoc)) ?_
          have hyb := List.getElem?_eq_getElem hoc
          generalize y[o' - 1 - c] = b at hb e2 fin fin2 hyb
          walk_at "rd"
          refine go_pickI ?_
          cases b with
          | true =>
            rw [if_pos rfl] at e2 ⊢
            walk_at "rd"
            refine go_ixS hyz (at_i (o' - 1 - c) rfl hyb) ?_
            walk_at "rd"
            refine ifB_dec (fun q4 => ?_) (fun q4 => ?_)
            · walk_at "rd"
              refine go_mtK h.ob (sh_no (by decide +kernel) (by decide +kernel) (by decide +kernel)) ?_
              walk_at "rd"
              refine ⟨(⟨p, al, ps, n, ps.flatten⟩, m, o' - 1 - c), rfl, ⟨hS, y, hy, Nat.le_of_lt hoc⟩, ?_⟩
              rintro v H3 ⟨s3, rfl⟩
              refine hrt2 _ _ (hrt _ _ (hQ _ _ ⟨s3, ?_⟩))
              show V.int (ones (ps.flatten.take (cum ps m + (o' - 1 - c))) : Nat) = _
              rw [fin rfl (by omega)]
            · walk_at "rd"
              have f2 := fin2 (fun z => q4 (by omega))
              exact ⟨rfl, by omega, _, by rw [ej2, show hh ps.flatten (cum ps m + o' - c) - 1 = hh ps.flatten (cum ps m + (o' - 1 - c)) by omega]; walk_at "se"⟩
          | false =>
            rw [if_neg Bool.false_ne_true] at e2 ⊢
            walk_at "rd"
            refine go_ixS hyz (at_i (o' - 1 - c) rfl hyb) ?_
            walk_at "rd"
            have f2 := fin2 (fun z => Bool.false_ne_true z.1)
            exact ⟨rfl, by omega, _, by rw [ej2, show hh ps.flatten (cum ps m + o' - c) - -1 = hh ps.flatten (cum ps m + (o' - 1 - c)) by omega]; walk_at "se"⟩
        · rintro σ' H2 ⟨rfl, hwc, x6, rfl⟩
          have e0 : cum ps m + o' - o' = cum ps m := by omega
          rw [e0] at hwc ⊢
          exact hnx2 _ _ ⟨rfl, hwc, _, _, _, rfl⟩
    · rintro σ' H2 ⟨rfl, hw2, o2, x5, x6, rfl⟩
      have hm0 : 0 < m := by
        cases m with
        | zero => rw [cum_zero] at hw2; omega
        | succ m => omega
      obtain ⟨y2, hy2'⟩ := cum_in (ps := ps) (i := m - 1) (by have := (List.getElem?_eq_some_iff.mp hy).1; omega)
      have hcs := cum_succ hy2'
      have em : m - 1 + 1 = m := by omega
      rw [em] at hcs
      have hyz2 : y2.length ≤ sizeLine := Nat.le_trans (ok.piece hy2').2 (by decide)
      walk_at "rd"
      refine go_fldK h.ob T.c_Shaped T.n_Shaped_parts sh_parts ?_
      walk_at "rd"
      refine go_ixL h.pt (at_i (m - 1) (by omega) (map_at hy2')) ?_
      walk_at "rd"
      refine ⟨m - 1, by omega, m - 1, y2.length, y2, rfl, rfl, hy2', Nat.le_refl _, by omega, by omega, _, _, by rw [← hcs]; walk_at "se"⟩

end
section
/-- one step of a reading; as many as go -/
local macro_rules | `(tactic| walk_at "st") => `(tactic| first
  | with_reducible refine go_seq ?_ | with_reducible refine go_asg ?_ | with_reducible refine go_gname ?_ | ((with_reducible refine go_var (v := ?vv) ?hv ?_); (case hv => rfl)) | with_reducible refine go_c ?_ | with_reducible refine go_op ?_
  | with_reducible refine go_add ?_ | with_reducible refine go_sub ?_ | with_reducible refine go_cb ?_ | with_reducible refine go_cons ?_ | with_reducible refine go_nil ?_ | with_reducible refine go_test ?_ | with_reducible refine go_isB ?_
  | with_reducible refine go_if ?_ | with_reducible refine go_lt ?_ | with_reducible refine go_le ?_ | with_reducible refine go_gt ?_ | with_reducible refine go_ge ?_ | with_reducible refine go_eqI ?_ | with_reducible refine go_neI ?_
  | with_reducible refine go_eq1 ?_ | with_reducible refine go_un ?_ | with_reducible refine go_neg ?_ | with_reducible refine go_tand ?_ | with_reducible refine go_tor ?_ | with_reducible refine go_tnot ?_ | with_reducible refine ifB_t ?_ | with_reducible refine ifB_f ?_ | with_reducible refine ifB_nf ?_ | with_reducible refine ifB_nt ?_
  | with_reducible refine go_andV ?_ | with_reducible refine go_orV ?_ | with_reducible refine go_notV ?_ | with_reducible refine go_chain ?_ | with_reducible refine go_tB ?_ | with_reducible refine go_nilt ?_
  | with_reducible refine go_ret ?_ | with_reducible refine go_retN ?_ | with_reducible refine go_next ?_ | with_reducible refine go_drop ?_ | with_reducible refine go_brk ?_ | with_reducible refine go_ct ?_
  | ((with_reducible refine go_aug (n := ?nn) ?ha ?_); (case ha => rfl)) | with_reducible refine go_augi ?_ | with_reducible refine go_lst ?_ | with_reducible refine go_tup ?_ | with_reducible refine go_pick ?_ | with_reducible refine go_picked ?_
  | with_reducible refine go_sl ?_ | with_reducible refine go_nopart ?_ | with_reducible refine go_part ?_ | with_reducible refine go_parti ?_ | with_reducible refine go_isN ?_ | with_reducible refine go_notN ?_ | with_reducible refine go_inS ?_ | with_reducible refine go_notInS ?_
  | with_reducible refine go_max2 ?_ | with_reducible refine go_min2 ?_ | with_reducible refine go_intB ?_ | with_reducible refine go_abs ?_ | with_reducible refine go_cl ?_ | with_reducible refine go_mt ?_ | with_reducible refine go_fld ?_
  | with_reducible refine go_bm ?_ | with_reducible refine go_bm0 ?_ | with_reducible refine ty_str ?_ | ((with_reducible refine ty_lst (xs := ?xx) ?ht ?_); (case ht => assumption))
  | with_reducible refine go_for ?_ | with_reducible refine go_iStr ?_ | with_reducible refine go_strK ?_ | with_reducible refine go_iList ?_ | with_reducible refine go_iEnS ?_ | with_reducible refine go_enSK ?_ | with_reducible refine go_iEnL ?_
  | with_reducible refine go_iR1 ?_ | with_reducible refine go_iR2 ?_ | with_reducible refine go_iR3 ?_ | with_reducible refine go_lc ?_
  | ((with_reducible refine go_div ?hc ?_); (case hc => decide)) | ((with_reducible refine go_mod ?hc ?_); (case hc => decide)) | ((with_reducible refine go_shr ?hc ?_); (case hc => decide)) | with_reducible refine go_and ?_ | with_reducible refine go_or ?_
  | ((with_reducible refine go_lenS ?hz ?_); (case hz => assumption)) | ((with_reducible refine go_lenL (xs := ?xx) ?hz ?_); (case hz => assumption)) | with_reducible refine go_sfld ?_ | with_reducible refine go_mk ?_ | with_reducible refine go_isiII ?_ | with_reducible refine go_isiIB ?_ | with_reducible refine go_isiSS ?_ | with_reducible refine go_gcons ?_ | with_reducible refine go_gnil ?_ | with_reducible refine go_and ?_ | with_reducible refine go_intS ?_ | with_reducible refine go_slT ?_ | with_reducible refine go_iTup ?_ | ((with_reducible refine go_mul ?hc ?_); (case hc => exact .inl ⟨by decide, by decide⟩)))
local macro_rules | `(tactic| walk_at "rd") => `(tactic| repeat walk_at "st")
local macro_rules | `(tactic| walk_at "go") => `(tactic| dsimp only [cxOf, Cx.nox, Cx.wish, L2.start, List.map, List.length_cons, List.length_nil, List.replicate, Nat.reduceAdd, Nat.reduceSub, List.cons_append, List.nil_append])
local macro_rules | `(tactic| walk_at "sz") => `(tactic| (refine Nat.le_trans (m := 100000) ?_ (by decide); first | (simp only [List.length_cons, List.length_nil, List.length_append, List.length_map]; omega) | omega))
/-- two lists of slots are the same -/
local macro_rules | `(tactic| walk_at "se") => `(tactic| ((try dsimp only [List.set]); (repeat' (first | rfl | refine congr (congrArg List.cons ?_) ?_ | refine congrArg (fun z => some (V.int z)) ?_)); (try omega)))
/-! ## what is asked of the shaped wood -/
theorem spot_place {ps : List (List Bool)} {r A R : List Bool} {k i o : Nat} (h : SpotAt ps r k i o) (e : r = A ++ true :: R) (hk : ones A = k) : cum ps i + o = A.length := by
  obtain ⟨_, hu, hn⟩ := h
  obtain ⟨hl, hb⟩ := List.getElem?_eq_some_iff.mp hu
  have e2 : r = r.take (cum ps i + o) ++ true :: r.drop (cum ps i + o + 1) := by
    rw [← hb, ← List.drop_eq_getElem_cons hl, List.take_append_drop]
  have q := open_uniq (e2.symm.trans e) (by rw [hn, hk])
  rw [← q.1, List.length_take]
  omega
/-- a knot in the row -/
structure Kt (r A B C : List Bool) : Prop where
  e : r = A ++ true :: (B ++ false :: C)
  b : Bal B 0
theorem Kt.lt {r A B C : List Bool} (h : Kt r A B C) : ones A < ones r := by
  rw [h.e, ones_app]
  show _ < _ + (ones (B ++ false :: C) + 1)
  omega
theorem Kt.len {r A B C : List Bool} (h : Kt r A B C) : A.length + 1 + B.length + 1 ≤ r.length := by
  rw [h.e]
  simp
  omega
theorem bal_len {B : List Bool} (h : Bal B 0) : B.length = 2 * ones B := by
  have := bal_ht B 0 h
  rw [ht_ones] at this
  omega
def sp_Shaped_ends_of (K : PySem.W.Frag) : Sp := mkSp (α := ShArg × List Bool × List Bool × List Bool) (fun a => [.ref a.1.p, .int (ones a.2.1 : Nat)]) (fun a H => ShPre K a.1 H ∧ Kt a.1.r a.2.1 a.2.2.1 a.2.2.2)
  (fun a H v H' => Same H H' ∧ ∃ t, v = .ref t ∧ H' t = some (.tup [.int (a.2.1.length : Nat), .int (a.2.1.length + 1 + a.2.2.1.length : Nat)]))
theorem sc_Shaped_ends_of : FnScope ["self", "k", "at", "place", "height", "end_at", "end_place"] ["self", "k"] (defScope s_Shaped_ends_of) := ⟨rfl, rfl, rfl, by decide +kernel, rfl, by decide +kernel, by decide +kernel⟩
theorem ok_Shaped_ends_of {P : Program} {w : World} {K : PySem.W.Frag} {mg : Str → Option Value} {base : Heap} (T : Top K mg) (R_Shaped_spot_of : RdyM P w K mg base "Shaped" "spot_of" 1 ["self", "k"] (sp_Shaped_spot_of K)) (R_Shaped_closing_from : RdyM P w K mg base "Shaped" "closing_from" 1 ["self", "at", "place", "height"] (sp_Shaped_closing_from K)) (R_Shaped_row_place : RdyM P w K mg base "Shaped" "row_place" 1 ["self", "at", "place"] (sp_Shaped_row_place K)) : RdyM P w K mg base "Shaped" "ends_of" 2 ["self", "k"] (sp_Shaped_ends_of K) := by
  refine rdyM T.c_Shaped T.m_Shaped_ends_of T.f_Shaped_ends_of sc_Shaped_ends_of (fun _ => rfl) (fun _ _ _ _ _ _ us hl => match us, hl with | [_, _], _ => rfl) fun cdv A outer s H a Q E hr hp hQ => ⟨_, (pss_cons (ps_asg (pe_m R_Shaped_spot_of (hr.mono (by decide)) (pv 0) (pa_cons (pv 1) pa_nil)) (pg_tup rfl (pgs_cons (pg_name (i := 2) sc_Shaped_ends_of.nd rfl (Or.inl rfl)) (pgs_cons (pg_name (i := 3) sc_Shaped_ends_of.nd rfl (Or.inl rfl)) (pgs_cons (pg_name (i := 4) sc_Shaped_ends_of.nd rfl (Or.inl rfl)) pgs_nil)))))
      (pss_cons (ps_asg (pe_m R_Shaped_closing_from (hr.mono (by decide)) (pv 0) (pa_cons (pv 2) (pa_cons (pv 3) (pa_cons (pv 4) pa_nil)))) (pg_tup rfl (pgs_cons (pg_name (i := 5) sc_Shaped_ends_of.nd rfl (Or.inl rfl)) (pgs_cons (pg_name (i := 6) sc_Shaped_ends_of.nd rfl (Or.inl rfl)) pgs_nil))))
      (pss_one (ps_ret (pe_tup (pa_cons (pe_m R_Shaped_row_place (hr.mono (by decide)) (pv 0) (pa_cons (pv 2) (pa_cons (pv 3) pa_nil))) (pa_cons (pe_m R_Shaped_row_place (hr.mono (by decide)) (pv 0) (pa_cons (pv 5) (pa_cons (pv 6) pa_nil))) pa_nil))))))), ?_⟩
  obtain ⟨a, A', B, C⟩ := a
  obtain ⟨hS, hK⟩ := hp
  simp only at hS hK
  obtain ⟨⟨dx, pl, tl, ts, as, h⟩, ok⟩ := id hS
  have hlt := hK.lt
  walk_at "go"
  walk_at "rd"
  refine go_mtK h.ob (sh_no (by decide +kernel) (by decide +kernel) (by decide +kernel)) ?_
  walk_at "rd"
  refine ⟨(a, ones A'), rfl, ⟨hS, hlt⟩, ?_⟩
  rintro v H1 ⟨s1, t1, i, o, rfl, hsp, h1⟩
  have hpl := spot_place hsp hK.e rfl
  obtain ⟨⟨x, hx, ho⟩, hup, hkn⟩ := hsp
  simp only at hx ho hup hkn hpl h1
  refine go_gtup h1 rfl ?_
  walk_at "rd"
  have h' := h.mono s1
  refine go_mtK h'.ob (sh_no (by decide +kernel) (by decide +kernel) (by decide +kernel)) ?_
  walk_at "rd"
  refine ⟨(a, i, o, A'.length + 1 + B.length), rfl, ⟨⟨⟨dx, pl, tl, ts, as, h'⟩, ok⟩, ⟨x, hx, ho⟩, ?_, ?_, ?_, ?_⟩, ?_⟩
  · show cum a.ps i + o ≤ A'.length + 1 + B.length
    omega
  · have := hK.len
    show A'.length + 1 + B.length < a.r.length
    omega
  · intro j j1 j2
    show hh a.r (cum a.ps i + o) < hh a.r j
    rw [hpl, hK.e, hh_app]
    exact knot_way hK.b (by
      have j1' : cum a.ps i + o < j := j1
      omega) j2
  · show hh a.r (A'.length + 1 + B.length + 1) = hh a.r (cum a.ps i + o)
    rw [hpl, hK.e, hh_app]
    exact knot_down hK.b
  rintro v H2 ⟨s2, t2, i2, o2, rfl, hq2, h2⟩
  simp only at hq2 h2
  refine go_gtup h2 rfl ?_
  walk_at "rd"
  have h'' := h'.mono s2
  refine go_mtK h''.ob (sh_no (by decide +kernel) (by decide +kernel) (by decide +kernel)) ?_
  walk_at "rd"
  refine ⟨(a, i, o), rfl, ⟨⟨dx, pl, tl, ts, as, h''⟩, ok⟩, ?_⟩
  rintro v H3 ⟨s3, rfl⟩
  walk_at "rd"
  have h3 := h''.mono s3
  refine go_mtK h3.ob (sh_no (by decide +kernel) (by decide +kernel) (by decide +kernel)) ?_
  walk_at "rd"
  refine ⟨(a, i2, o2), rfl, ⟨⟨dx, pl, tl, ts, as, h3⟩, ok⟩, ?_⟩
  rintro v H4 ⟨s4, rfl⟩
  walk_at "rd"
  refine go_newT (by walk_at "sz") fun t H5 n5 s5 h5 => ?_
  simp only at h5
  rw [hpl, hq2] at h5
  exact hQ _ _ ⟨(((s1.trans s2).trans s3).trans s4).trans s5, t, rfl, h5⟩
def sp_Shaped_beneath (K : PySem.W.Frag) : Sp := mkSp (α := ShArg × List Bool × List Bool × List Bool) (fun a => [.ref a.1.p, .int (ones a.2.1 : Nat)]) (fun a H => ShPre K a.1 H ∧ Kt a.1.r a.2.1 a.2.2.1 a.2.2.2)
  (fun a H v H' => Same H H' ∧ v = .int (ones a.2.2.1 : Nat))
theorem sc_Shaped_beneath : FnScope ["self", "k", "low", "high"] ["self", "k"] (defScope s_Shaped_beneath) := ⟨rfl, rfl, rfl, by decide +kernel, rfl, by decide +kernel, by decide +kernel⟩
theorem ok_Shaped_beneath {P : Program} {w : World} {K : PySem.W.Frag} {mg : Str → Option Value} {base : Heap} (T : Top K mg) (R_Shaped_look_at_knot : RdyM P w K mg base "Shaped" "look_at_knot" 2 ["self", "k"] (sp_Shaped_look_at_knot K)) (R_Shaped_ends_of : RdyM P w K mg base "Shaped" "ends_of" 2 ["self", "k"] (sp_Shaped_ends_of K)) : RdyM P w K mg base "Shaped" "beneath" 3 ["self", "k"] (sp_Shaped_beneath K) := by
  refine rdyM T.c_Shaped T.m_Shaped_beneath T.f_Shaped_beneath sc_Shaped_beneath (fun _ => rfl) (fun _ _ _ _ _ _ us hl => match us, hl with | [_, _], _ => rfl) fun cdv A outer s H a Q E hr hp hQ => ⟨_, (pss_cons (ps_expr (pe_m R_Shaped_look_at_knot (hr.mono (by decide)) (pv 0) (pa_cons (pv 1) pa_nil)))
      (pss_cons (ps_asg (pe_m R_Shaped_ends_of (hr.mono (by decide)) (pv 0) (pa_cons (pv 1) pa_nil)) (pg_tup rfl (pgs_cons (pg_name (i := 2) sc_Shaped_beneath.nd rfl (Or.inl rfl)) (pgs_cons (pg_name (i := 3) sc_Shaped_beneath.nd rfl (Or.inl rfl)) pgs_nil))))
      (pss_one (ps_ret (pe_op (r := rDivI) op_fdiv (pe_op (r := rSubI) op_sub (pe_op (r := rSubI) op_sub (pv 3) (pv 2)) pe_int) pe_int))))), ?_⟩
  obtain ⟨a, A', B, C⟩ := a
  obtain ⟨hS, hK⟩ := hp
  simp only at hS hK
  obtain ⟨⟨dx, pl, tl, ts, as, h⟩, ok⟩ := id hS
  walk_at "go"
  walk_at "rd"
  refine go_mtK h.ob (sh_no (by decide +kernel) (by decide +kernel) (by decide +kernel)) ?_
  walk_at "rd"
  refine ⟨(a, ones A'), rfl, ⟨hS, hK.lt⟩, ?_⟩
  rintro v H1 ⟨s1, rfl⟩
  walk_at "rd"
  have h1 := h.mono s1
  refine go_mtK h1.ob (sh_no (by decide +kernel) (by decide +kernel) (by decide +kernel)) ?_
  walk_at "rd"
  refine ⟨(a, A', B, C), rfl, ⟨⟨⟨dx, pl, tl, ts, as, h1⟩, ok⟩, hK⟩, ?_⟩
  rintro v H2 ⟨s2, t, rfl, h2⟩
  simp only at h2
  refine go_gtup h2 rfl ?_
  walk_at "rd"
  refine hQ _ _ ⟨s1.trans s2, ?_⟩
  have := bal_len hK.b
  show V.int _ = V.int (ones B : Nat)
  congr 1
  omega
def sp_Shaped_depth (K : PySem.W.Frag) : Sp := mkSp (α := ShArg × Nat) (fun a => [.ref a.1.p, .int (a.2 : Nat)]) (fun a H => ShPre K a.1 H ∧ a.2 < ones a.1.r)
  (fun a H v H' => Same H H' ∧ ∃ d : Nat, (dep a.1.r 0)[a.2]? = some d ∧ v = .int (d : Nat))
theorem dep_at {A R : List Bool} : (dep (A ++ true :: R) 0)[ones A]? = some (hgt A 0) := by
  rw [dep_app, List.getElem?_append_right (by rw [dep_len]; exact Nat.le_refl _), dep_len, Nat.sub_self]
  rfl
theorem sc_Shaped_depth : FnScope ["self", "k"] ["self", "k"] (defScope s_Shaped_depth) := ⟨rfl, rfl, rfl, by decide +kernel, rfl, by decide +kernel, by decide +kernel⟩
theorem ok_Shaped_depth {P : Program} {w : World} {K : PySem.W.Frag} {mg : Str → Option Value} {base : Heap} (T : Top K mg) (R_Shaped_look_at_knot : RdyM P w K mg base "Shaped" "look_at_knot" 2 ["self", "k"] (sp_Shaped_look_at_knot K)) (R_Shaped_spot_of : RdyM P w K mg base "Shaped" "spot_of" 1 ["self", "k"] (sp_Shaped_spot_of K)) : RdyM P w K mg base "Shaped" "depth" 3 ["self", "k"] (sp_Shaped_depth K) := by
  refine rdyM T.c_Shaped T.m_Shaped_depth T.f_Shaped_depth sc_Shaped_depth (fun _ => rfl) (fun _ _ _ _ _ _ us hl => match us, hl with | [_, _], _ => rfl) fun cdv A outer s H a Q E hr hp hQ => ⟨_, (pss_cons (ps_expr (pe_m R_Shaped_look_at_knot (hr.mono (by decide)) (pv 0) (pa_cons (pv 1) pa_nil)))
      (pss_one (ps_ret (pe_ix (r := rIxT K) ix_tup (pe_m R_Shaped_spot_of (hr.mono (by decide)) (pv 0) (pa_cons (pv 1) pa_nil)) pe_int (fun _ _ => rfl))))), ?_⟩
  obtain ⟨a, k⟩ := a
  obtain ⟨hS, hk⟩ := hp
  simp only at hS hk
  obtain ⟨⟨dx, pl, tl, ts, as, h⟩, ok⟩ := id hS
  obtain ⟨A', B, C, e, hk2, hn, hb, _⟩ := knot_split ok.bal hk
  walk_at "go"
  walk_at "rd"
  refine go_mtK h.ob (sh_no (by decide +kernel) (by decide +kernel) (by decide +kernel)) ?_
  walk_at "rd"
  refine ⟨(a, k), rfl, ⟨hS, hk⟩, ?_⟩
  rintro v H1 ⟨s1, rfl⟩
  walk_at "rd"
  have h1 := h.mono s1
  refine go_mtK h1.ob (sh_no (by decide +kernel) (by decide +kernel) (by decide +kernel)) ?_
  walk_at "rd"
  refine ⟨(a, k), rfl, ⟨⟨⟨dx, pl, tl, ts, as, h1⟩, ok⟩, hk⟩, ?_⟩
  rintro v H2 ⟨s2, t1, i, o, rfl, hsp, h2⟩
  have hpl := spot_place hsp e hk2
  simp only at h2 hpl
  walk_at "rd"
  refine go_ixT h2 (at_i 2 rfl rfl) ?_
  refine hQ _ _ ⟨s1.trans s2, hgt A' 0, ?_, ?_⟩
  · show (dep a.r 0)[k]? = _
    rw [e, ← hk2]
    exact dep_at
  · have := nn_ht A' 0 hn
    rw [hpl, e, hh_app]
    congr 1
    omega
def kv (o : Option (List Bool × List Bool × List Bool)) : V := match o with | none => .non | some (A, _, _) => .int (ones A : Nat)
def kids (r : List Bool) (o : Option (List Bool × List Bool × List Bool)) : List Int := match o with | none => tops 0 0 r | some (A, B, _) => tops 0 ((ones A : Int) + 1) B
def KtO (r : List Bool) (o : Option (List Bool × List Bool × List Bool)) : Prop := match o with | none => True | some (A, B, C) => Kt r A B C
def sp_Shaped_children (K : PySem.W.Frag) : Sp := mkSp (α := ShArg × Option (List Bool × List Bool × List Bool)) (fun a => [.ref a.1.p, kv a.2]) (fun a H => ShPre K a.1 H ∧ KtO a.1.r a.2)
  (fun a H v H' => NewO (LI (kids a.1.r a.2)) H v H')
theorem dec_non : decide (V.non = V.non) = true := decide_eq_true rfl
theorem dec_int (n : Int) : decide (V.int n = V.non) = false := decide_eq_false fun e => nomatch e
theorem sc_Shaped_children : FnScope ["self", "k", "low", "high"] ["self", "k"] (defScope s_Shaped_children) := ⟨rfl, rfl, rfl, by decide +kernel, rfl, by decide +kernel, by decide +kernel⟩
theorem ok_Shaped_children {P : Program} {w : World} {K : PySem.W.Frag} {mg : Str → Option Value} {base : Heap} (T : Top K mg) (R_Shaped_row : RdyM P w K mg base "Shaped" "row" 1 ["self"] (sp_Shaped_row K)) (R_tops_in : Rdy P w K mg base "tops_in" 1 ["text", "first"] (sp_tops_in K)) (R_Shaped_ends_of : RdyM P w K mg base "Shaped" "ends_of" 2 ["self", "k"] (sp_Shaped_ends_of K)) : RdyM P w K mg base "Shaped" "children" 3 ["self", "k"] (sp_Shaped_children K) := by
  refine rdyM T.c_Shaped T.m_Shaped_children T.f_Shaped_children sc_Shaped_children (fun _ => rfl) (fun _ _ _ _ _ _ us hl => match us, hl with | [_, _], _ => rfl) fun cdv A outer s H a Q E hr hp hQ => ⟨_, (pss_cons (ps_if (pt_cmpR op_isN' (pv 1) pe_non (nomark _)) (pss_one (ps_ret (pe_f R_tops_in (hr.mono (by decide)) (pa_cons (pe_m0 R_Shaped_row (hr.mono (by decide)) (pv 0)) (pa_cons pe_int pa_nil))))) pss_nil)
      (pss_cons (ps_asg (pe_m R_Shaped_ends_of (hr.mono (by decide)) (pv 0) (pa_cons (pv 1) pa_nil)) (pg_tup rfl (pgs_cons (pg_name (i := 2) sc_Shaped_children.nd rfl (Or.inl rfl)) (pgs_cons (pg_name (i := 3) sc_Shaped_children.nd rfl (Or.inl rfl)) pgs_nil))))
      (pss_one (ps_ret (pe_f R_tops_in (hr.mono (by decide)) (pa_cons (pe_slice sl_str (pe_m0 R_Shaped_row (hr.mono (by decide)) (pv 0)) (po_some (pe_op (r := rAddI) op_add (pv 2) pe_int)) (po_some (pv 3))) (pa_cons (pe_op (r := rAddI) op_add (pv 1) pe_int) pa_nil))))))), ?_⟩
  obtain ⟨a, o⟩ := a
  obtain ⟨hS, hK⟩ := hp
  simp only at hS hK
  obtain ⟨⟨dx, pl, tl, ts, as, h⟩, ok⟩ := id hS
  have hrl := ok.sz
  have hz : a.r.length ≤ sizeLine := Nat.le_trans hrl (by decide)
  cases o with
  | none =>
    walk_at "go"
    dsimp only [kv]
    walk_at "rd"
    refine ifB_y dec_non ?_
    walk_at "rd"
    refine go_mtK h.ob (sh_no (by decide +kernel) (by decide +kernel) (by decide +kernel)) ?_
    walk_at "rd"
    refine ⟨a, rfl, hS, ?_⟩
    rintro v H1 ⟨eH, rfl⟩
    subst eH
    walk_at "rd"
    refine ⟨(a.r, 0), rfl, by show a.r.length ≤ 100000; omega, ?_⟩
    rintro v H2 hN
    exact hQ _ _ hN
  | some q =>
    obtain ⟨A', B, C⟩ := q
    replace hK : Kt a.r A' B C := hK
    walk_at "go"
    dsimp only [kv]
    walk_at "rd"
    refine ifB_n (dec_int _) ?_
    walk_at "rd"
    refine go_mtK h.ob (sh_no (by decide +kernel) (by decide +kernel) (by decide +kernel)) ?_
    walk_at "rd"
    refine ⟨(a, A', B, C), rfl, ⟨hS, hK⟩, ?_⟩
    rintro v H2 ⟨s2, t, rfl, h2⟩
    simp only at h2
    refine go_gtup h2 rfl ?_
    walk_at "rd"
    have h' := h.mono s2
    refine go_mtK h'.ob (sh_no (by decide +kernel) (by decide +kernel) (by decide +kernel)) ?_
    walk_at "rd"
    refine ⟨a, rfl, ⟨⟨dx, pl, tl, ts, as, h'⟩, ok⟩, ?_⟩
    rintro v H1 ⟨eH, rfl⟩
    subst eH
    walk_at "rd"
    refine go_slS hz ?_
    have e1 : ((A'.length : Nat) : Int) + 1 = ((A'.length + 1 : Nat) : Int) := by omega
    rw [e1, sl_nat]
    have e2 : (a.r.drop (A'.length + 1)).take (A'.length + 1 + B.length - (A'.length + 1)) = B := by
      rw [hK.e, Nat.add_sub_cancel_left, ← List.drop_drop, List.drop_left]
      show (B ++ false :: C).take B.length = B
      simp
    rw [e2]
    walk_at "rd"
    have hbl := hK.len
    refine ⟨(B, (ones A' : Int) + 1), rfl, by show B.length ≤ 100000; omega, ?_⟩
    rintro v H3 ⟨p3, rfl, n3, s3, h3⟩
    exact hQ _ _ ⟨p3, rfl, s2.free n3, s2.trans s3, h3⟩

end
section
/-- one step of a reading; as many as go -/
local macro_rules | `(tactic| walk_at "st") => `(tactic| first
  | with_reducible refine go_seq ?_ | with_reducible refine go_asg ?_ | with_reducible refine go_gname ?_ | ((with_reducible refine go_var (v := ?vv) ?hv ?_); (case hv => rfl)) | with_reducible refine go_c ?_ | with_reducible refine go_op ?_
  | with_reducible refine go_add ?_ | with_reducible refine go_sub ?_ | with_reducible refine go_cb ?_ | with_reducible refine go_cons ?_ | with_reducible refine go_nil ?_ | with_reducible refine go_test ?_ | with_reducible refine go_isB ?_
  | with_reducible refine go_if ?_ | with_reducible refine go_lt ?_ | with_reducible refine go_le ?_ | with_reducible refine go_gt ?_ | with_reducible refine go_ge ?_ | with_reducible refine go_eqI ?_ | with_reducible refine go_neI ?_
  | with_reducible refine go_eq1 ?_ | with_reducible refine go_un ?_ | with_reducible refine go_neg ?_ | with_reducible refine go_tand ?_ | with_reducible refine go_tor ?_ | with_reducible refine go_tnot ?_ | with_reducible refine ifB_t ?_ | with_reducible refine ifB_f ?_ | with_reducible refine ifB_nf ?_ | with_reducible refine ifB_nt ?_
  | with_reducible refine go_andV ?_ | with_reducible refine go_orV ?_ | with_reducible refine go_notV ?_ | with_reducible refine go_chain ?_ | with_reducible refine go_tB ?_ | with_reducible refine go_nilt ?_
  | with_reducible refine go_ret ?_ | with_reducible refine go_retN ?_ | with_reducible refine go_next ?_ | with_reducible refine go_drop ?_ | with_reducible refine go_brk ?_ | with_reducible refine go_ct ?_
  | ((with_reducible refine go_aug (n := ?nn) ?ha ?_); (case ha => rfl)) | with_reducible refine go_augi ?_ | with_reducible refine go_lst ?_ | with_reducible refine go_tup ?_ | with_reducible refine go_pick ?_ | with_reducible refine go_picked ?_
  | with_reducible refine go_sl ?_ | with_reducible refine go_nopart ?_ | with_reducible refine go_part ?_ | with_reducible refine go_parti ?_ | with_reducible refine go_isN ?_ | with_reducible refine go_notN ?_ | with_reducible refine go_inS ?_ | with_reducible refine go_notInS ?_
  | with_reducible refine go_max2 ?_ | with_reducible refine go_min2 ?_ | with_reducible refine go_intB ?_ | with_reducible refine go_abs ?_ | with_reducible refine go_cl ?_ | with_reducible refine go_mt ?_ | with_reducible refine go_fld ?_
  | with_reducible refine go_bm ?_ | with_reducible refine go_bm0 ?_ | with_reducible refine ty_str ?_ | ((with_reducible refine ty_lst (xs := ?xx) ?ht ?_); (case ht => assumption))
  | with_reducible refine go_for ?_ | with_reducible refine go_iStr ?_ | with_reducible refine go_strK ?_ | with_reducible refine go_iList ?_ | with_reducible refine go_iEnS ?_ | with_reducible refine go_enSK ?_ | with_reducible refine go_iEnL ?_
  | with_reducible refine go_iR1 ?_ | with_reducible refine go_iR2 ?_ | with_reducible refine go_iR3 ?_ | with_reducible refine go_lc ?_
  | ((with_reducible refine go_div ?hc ?_); (case hc => decide)) | ((with_reducible refine go_mod ?hc ?_); (case hc => decide)) | ((with_reducible refine go_shr ?hc ?_); (case hc => decide)) | with_reducible refine go_and ?_ | with_reducible refine go_or ?_
  | ((with_reducible refine go_lenS ?hz ?_); (case hz => assumption)) | ((with_reducible refine go_lenL (xs := ?xx) ?hz ?_); (case hz => assumption)) | with_reducible refine go_sfld ?_ | with_reducible refine go_mk ?_ | with_reducible refine go_isiII ?_ | with_reducible refine go_isiIB ?_ | with_reducible refine go_isiSS ?_ | with_reducible refine go_gcons ?_ | with_reducible refine go_gnil ?_ | with_reducible refine go_and ?_ | with_reducible refine go_intS ?_ | with_reducible refine go_slT ?_ | with_reducible refine go_iTup ?_ | ((with_reducible refine go_mul ?hc ?_); (case hc => exact .inl ⟨by decide, by decide⟩)))
local macro_rules | `(tactic| walk_at "rd") => `(tactic| repeat walk_at "st")
local macro_rules | `(tactic| walk_at "go") => `(tactic| dsimp only [cxOf, Cx.nox, Cx.wish, L2.start, List.map, List.length_cons, List.length_nil, List.replicate, Nat.reduceAdd, Nat.reduceSub, List.cons_append, List.nil_append])
local macro_rules | `(tactic| walk_at "sz") => `(tactic| (refine Nat.le_trans (m := 100000) ?_ (by decide); first | (simp only [List.length_cons, List.length_nil, List.length_append, List.length_map]; omega) | omega))
/-- two lists of slots are the same -/
local macro_rules | `(tactic| walk_at "se") => `(tactic| ((try dsimp only [List.set]); (repeat' (first | rfl | refine congr (congrArg List.cons ?_) ?_ | refine congrArg (fun z => some (V.int z)) ?_)); (try omega)))
theorem split_at {r : List Bool} {j : Nat} {b : Bool} (h : r[j]? = some b) : r = r.take j ++ b :: r.drop (j + 1) := by
  obtain ⟨hl, hb⟩ := List.getElem?_eq_some_iff.mp h
  rw [← hb, ← List.drop_eq_getElem_cons hl, List.take_append_drop]
theorem hh_dep {r : List Bool} {j : Nat} (hn : Nn r 0) (h : r[j]? = some true) : ∃ d : Nat, (dep r 0)[ones (r.take j)]? = some d ∧ hh r j = d := by
  refine ⟨hgt (r.take j) 0, ?_, ?_⟩
  · have e := split_at h
    have q := dep_at (A := r.take j) (R := r.drop (j + 1))
    rw [← e] at q
    exact q
  · have := nn_ht _ _ (nn_take hn j)
    unfold hh
    omega
theorem back_up {r : List Bool} (hn : Nn r 0) {w q k d : Nat} (hw : r[w]? = some true) (hk : ones (r.take q) = k) (hq : hh r q = d) (hql : q ≤ r.length) (hi : ∀ (i x : Nat), ones (r.take w) < i → i < k → (dep r 0)[i]? = some x → d ≤ x) :
    ∀ (m p : Nat), p + m = q → w < p → (d : Int) ≤ hh r p
  | 0, p, e, _ => by
    have e2 : p = q := by omega
    rw [e2, hq]
    exact Int.le_refl _
  | m + 1, p, e, h => by
    have ih := back_up hn hw hk hq hql hi m (p + 1) (by omega) (by omega)
    have hp : p < r.length := by omega
    have hb := List.getElem?_eq_getElem hp
    have e2 := hh_succ hb
    generalize r[p] = b at hb e2
    cases b with
    | false =>
      rw [if_neg Bool.false_ne_true] at e2
      omega
    | true =>
      obtain ⟨x, x1, x2⟩ := hh_dep hn hb
      have := hi _ x (ones_lt r h hw) (by rw [← hk]; exact ones_lt r (by omega) hb) x1
      omega
def sp_Shaped_elder (K : PySem.W.Frag) : Sp := mkSp (α := ShArg × List Int × Nat) (fun a => [.ref a.1.p, .int (a.2.2 : Nat)]) (fun a H => ShPre K a.1 H ∧ Wood a.2.1 a.1.r ∧ a.2.2 < a.2.1.length)
  (fun a H v H' => Same H H' ∧ ∃ e, a.2.1[a.2.2]? = some e ∧ v = if e < 0 then .non else .int e)
theorem sc_Shaped_elder : FnScope ["self", "k", "at", "place", "height"] ["self", "k"] (defScope s_Shaped_elder) := ⟨rfl, rfl, rfl, by decide +kernel, rfl, by decide +kernel, by decide +kernel⟩
theorem ok_Shaped_elder {P : Program} {w : World} {K : PySem.W.Frag} {mg : Str → Option Value} {base : Heap} (T : Top K mg) (R_Shaped_look_at_knot : RdyM P w K mg base "Shaped" "look_at_knot" 2 ["self", "k"] (sp_Shaped_look_at_knot K)) (R_Shaped_spot_of : RdyM P w K mg base "Shaped" "spot_of" 1 ["self", "k"] (sp_Shaped_spot_of K)) (R_Shaped_back_to : RdyM P w K mg base "Shaped" "back_to" 2 ["self", "at", "place", "height", "goal"] (sp_Shaped_back_to K)) : RdyM P w K mg base "Shaped" "elder" 3 ["self", "k"] (sp_Shaped_elder K) := by
  refine rdyM T.c_Shaped T.m_Shaped_elder T.f_Shaped_elder sc_Shaped_elder (fun _ => rfl) (fun _ _ _ _ _ _ us hl => match us, hl with | [_, _], _ => rfl) fun cdv A outer s H a Q E hr hp hQ => ⟨_, (pss_cons (ps_expr (pe_m R_Shaped_look_at_knot (hr.mono (by decide)) (pv 0) (pa_cons (pv 1) pa_nil)))
      (pss_cons (ps_asg (pe_m R_Shaped_spot_of (hr.mono (by decide)) (pv 0) (pa_cons (pv 1) pa_nil)) (pg_tup rfl (pgs_cons (pg_name (i := 2) sc_Shaped_elder.nd rfl (Or.inl rfl)) (pgs_cons (pg_name (i := 3) sc_Shaped_elder.nd rfl (Or.inl rfl)) (pgs_cons (pg_name (i := 4) sc_Shaped_elder.nd rfl (Or.inl rfl)) pgs_nil)))))
      (pss_cons (ps_if (pt_cmpR (r := rEq) op_eq (pv 4) pe_int (nomark _)) (pss_one (ps_ret pe_non)) pss_nil)
      (pss_one (ps_ret (pe_m R_Shaped_back_to (hr.mono (by decide)) (pv 0) (pa_cons (pv 2) (pa_cons (pv 3) (pa_cons (pv 4) (pa_cons (pe_op (r := rSubI) op_sub (pv 4) pe_int) pa_nil)))))))))), ?_⟩
  obtain ⟨a, es, k⟩ := a
  obtain ⟨hS, hw, hkl⟩ := hp
  simp only at hS hw hkl
  obtain ⟨⟨dx, pl, tl, ts, as, h⟩, ok⟩ := id hS
  have hk : k < ones a.r := by rw [← (wood_len hw).1]; exact hkl
  obtain ⟨A', B, C, e, hk2, hn, hb, _⟩ := knot_split ok.bal hk
  have hd0 : (dep a.r 0)[k]? = some (hgt A' 0) := by
    rw [e, ← hk2]
    exact dep_at
  obtain ⟨el, hel, hns⟩ := hw.2.2 _ _ hd0
  have hnr := (bal_nn _ _ ok.bal).1
  walk_at "go"
  walk_at "rd"
  refine go_mtK h.ob (sh_no (by decide +kernel) (by decide +kernel) (by decide +kernel)) ?_
  walk_at "rd"
  refine ⟨(a, k), rfl, ⟨hS, hk⟩, ?_⟩
  rintro v H1 ⟨s1, rfl⟩
  walk_at "rd"
  have h1 := h.mono s1
  refine go_mtK h1.ob (sh_no (by decide +kernel) (by decide +kernel) (by decide +kernel)) ?_
  walk_at "rd"
  refine ⟨(a, k), rfl, ⟨⟨⟨dx, pl, tl, ts, as, h1⟩, ok⟩, hk⟩, ?_⟩
  rintro v H2 ⟨s2, t1, i, o, rfl, hsp, h2⟩
  have hpl := spot_place hsp e hk2
  obtain ⟨⟨x, hx, ho⟩, hup, hkn⟩ := hsp
  simp only at h2 hpl hx ho hup hkn
  have hht : hh a.r (cum a.ps i + o) = (hgt A' 0 : Nat) := by
    have := nn_ht A' 0 hn
    rw [hpl, e, hh_app]
    omega
  refine go_gtup h2 rfl ?_
  walk_at "rd"
  rcases hns with ⟨q1, q2⟩ | ⟨j, q1, q2, ⟨x2, q3, q4⟩, q5⟩
  · refine ifB_y (decide_eq_true (by omega)) ?_
    walk_at "rd"
    refine hQ _ _ ⟨s1.trans s2, el, hel, ?_⟩
    rw [if_pos (by omega)]
  · refine ifB_n (decide_eq_false (by omega)) ?_
    walk_at "rd"
    have h3 := h1.mono s2
    have hjl : j < ones a.r := by omega
    obtain ⟨A1, B1, C1, e1, hj1, hn1, _, _⟩ := knot_split ok.bal hjl
    have hop : a.r[A1.length]? = some true := by rw [e1]; simp
    have hta : a.r.take A1.length = A1 := by rw [e1]; simp
    have hat : hh a.r A1.length = (x2 : Nat) := by
      have hd1 : (dep a.r 0)[j]? = some (hgt A1 0) := by
        rw [e1, ← hj1]
        exact dep_at
      rw [hd1] at q3
      have q6 := Option.some.inj q3
      have := nn_ht A1 0 hn1
      rw [e1, hh_app]
      omega
    have hlt : A1.length < cum a.ps i + o := by
      by_cases q7 : A1.length < cum a.ps i + o
      · exact q7
      · have := ones_mono a.r (i := cum a.ps i + o) (j := A1.length) (by omega)
        rw [hkn, hta, hj1] at this
        omega
    have hql : cum a.ps i + o ≤ a.r.length := by
      have := (List.getElem?_eq_some_iff.mp hup).1
      omega
    refine go_mtK h3.ob (sh_no (by decide +kernel) (by decide +kernel) (by decide +kernel)) ?_
    walk_at "rd"
    refine ⟨(a, i, o, A1.length), rfl, ⟨⟨⟨dx, pl, tl, ts, as, h3⟩, ok⟩, ⟨x, hx, by show o ≤ x.length; omega⟩, hlt, hop, ?_, ?_⟩, ?_⟩
    · show hh a.r A1.length = hh a.r (cum a.ps i + o) - 1
      omega
    · intro p p1 p2
      show hh a.r (cum a.ps i + o) ≤ hh a.r p
      have p2' : p ≤ cum a.ps i + o := p2
      rw [hht]
      exact back_up hnr hop hkn hht hql (fun i2 x3 z1 z2 z3 => q5 i2 x3 (by rw [hta, hj1] at z1; exact z1) z2 z3) (cum a.ps i + o - p) p (by omega) p1
    rintro v H4 ⟨s4, rfl⟩
    refine hQ _ _ ⟨(s1.trans s2).trans s4, el, hel, ?_⟩
    rw [if_neg (by omega)]
    show V.int (ones (a.r.take A1.length) : Nat) = _
    rw [hta, hj1, q1]
theorem keep2_trans {p al : Addr} {H H1 H2 : Hp} (a : Keep2 p al H H1) (b : Keep2 p al H1 H2) : Keep2 p al H H2 := fun c u h1 h2 e => b c u h1 h2 (a c u h1 h2 e)
theorem keep2_same {p al : Addr} {H H1 : Hp} (s : Same H H1) : Keep2 p al H H1 := fun c u _ _ e => s c u e
theorem keep2_keep {p al : Addr} {H H1 : Hp} (k : Keep p H H1) : Keep2 p al H H1 := fun c u h1 _ e => k c u h1 e
def sp_Shaped_shape (K : PySem.W.Frag) : Sp := mkSp (α := ShArg × Addr × List (List Bool)) (fun a => [.ref a.1.p, .ref a.2.1])
  (fun a H => ShapedAt K H a.1.p a.1.al a.1.ps a.1.n ∧ a.1.n ≤ 1000 ∧ H a.2.1 = some (LR a.2.2) ∧ a.2.1 ≠ a.1.al ∧ a.2.2.length ≤ 20000)
  (fun a H v H' => v = .non ∧ Keep2 a.1.p a.1.al H H' ∧ ShapedAt K H' a.1.p a.1.al a.2.2 (a.1.n + 1))
theorem sc_Shaped_shape : FnScope ["self", "parts", "part"] ["self", "parts"] (defScope s_Shaped_shape) := ⟨rfl, rfl, rfl, by decide +kernel, rfl, by decide +kernel, by decide +kernel⟩
theorem ok_Shaped_shape {P : Program} {w : World} {K : PySem.W.Frag} {mg : Str → Option Value} {base : Heap} (T : Top K mg) (R_sums_of : Rdy P w K mg base "sums_of" 1 ["text"] (sp_sums_of K)) : RdyM P w K mg base "Shaped" "shape" 2 ["self", "parts"] (sp_Shaped_shape K) := by
  refine rdyM T.c_Shaped T.m_Shaped_shape T.f_Shaped_shape sc_Shaped_shape (fun _ => rfl) (fun _ _ _ _ _ _ us hl => match us, hl with | [_, _], _ => rfl) fun cdv A outer s H a Q E hr hp hQ => ⟨_, (pss_cons (ps_expr (pe_bm PySem.F.plainAttrs_list PySem.F.slot_list_append PySem.F.type_list_append mt_append (pe_fld (pv 0) rfl) (pa_cons (pe_fld (pv 0) rfl) pa_nil)))
      (pss_cons (ps_fld (pv 0) (pv 1) rfl)
      (pss_one (ps_fld (pv 0) (pe_lc (own := [("part", 2)]) (g := gName 2) (tt := tYes) rfl sc_Shaped_shape.nd (pi_list (pv 1)) (blkOk_by (own := [("part", 2)]) (N := ["self", "parts", "part"]) (sc := defScope s_Shaped_shape) (by decide +kernel)) (fun _ _ _ _ _ => pg_name (i := 2) sc_Shaped_shape.nd rfl (Or.inl rfl)) (fun _ _ _ _ _ => by exact pts_nil) (fun _ _ _ _ _ => by exact (pe_f R_sums_of (hr.mono (by decide)) (pa_cons (pv 2) pa_nil)))) rfl)))), ?_⟩
  obtain ⟨⟨p, al, ps, n, r⟩, np, qs⟩ := a
  obtain ⟨⟨dx, pl, tl, ts, as, h⟩, hn, hnp, hne, hz⟩ := hp
  simp only at h hn hnp hne hz
  have hsz := h.sz
  walk_at "go"
  walk_at "rd"
  refine go_fldK h.ob T.c_Shaped T.n_Shaped_past sh_past ?_
  refine ty_lst h.pa ?_
  walk_at "rd"
  refine go_fldK h.ob T.c_Shaped T.n_Shaped_parts sh_parts ?_
  walk_at "rd"
  refine go_append h.pa (Nat.lt_of_le_of_lt (m := 1000) (by omega) (by decide)) ?_
  generalize hH1 : upd H al (.lst (as ++ [.ref pl])) = H1
  have pne : p ≠ al := fun e => by
    have q := h.pa
    rw [← e, h.ob] at q
    cases q
  have k1 : Keep2 p al H H1 := fun c u _ h2 e => by
    rw [← hH1, upd_ne h2]
    exact e
  have ob1 : H1 p = some (.ins (He.ga K "Shaped") dx (shF pl tl al)) := by
    rw [← hH1, upd_ne pne]
    exact h.ob
  have pa1 : H1 al = some (.lst (as ++ [.ref pl])) := by rw [← hH1, upd_same]
  have npne : np ≠ p := fun e => by
    rw [e, h.ob] at hnp
    cases hnp
  have np1 : H1 np = some (LR qs) := k1 _ _ npne hne hnp
  walk_at "rd"
  refine go_setK ob1 T.c_Shaped T.n_Shaped_parts (by show 3 < 1000; decide) (fs' := shF np tl al) pf_hit fun H2 h2 k2 => ?_
  walk_at "rd"
  refine go_listK (SqL.of (k2 _ _ npne np1)) ?_
  refine lc_U (as := qs) (f := vr) sumsV wk_list (fun H' s' => SqL.of (s' _ _ (k2 _ _ npne np1))) (Nat.lt_of_le_of_lt (m := 20000) hz (by decide)) (fun _ => rfl) (fun x _ H' s' Q' q' => ?_) (fun tl' ts' H3 n3 s3 h3 u3 => ?_)
  · walk_at "rd"
    refine ⟨x, rfl, trivial, ?_⟩
    rintro v H2 ⟨t, rfl, nt, st, hte⟩
    exact q' t H2 nt st hte
  walk_at "rd"
  refine go_setK (s3 _ _ h2) T.c_Shaped T.n_Shaped_totals (by show 3 < 1000; decide) (fs' := shF np tl' al) (by unfold shF; rw [pf_miss (by decide +kernel), pf_hit]) fun H4 h4 k4 => ?_
  have tne : tl' ≠ p := fun e => by
    rw [e, h2] at n3
    cases n3
  refine hQ _ _ ⟨rfl, keep2_trans k1 (keep2_keep (keep_trans (keep_trans k2 (same_kp s3)) k4)), dx, np, tl', ts', _, h4, k4 _ _ npne (s3 _ _ (k2 _ _ npne np1)), k4 _ _ tne h3, u3.mono fun a u q => k4 _ _ (fun e => ?_) q, k4 _ _ pne.symm (s3 _ _ (k2 _ _ pne.symm pa1)), ?_⟩
  · rw [e, s3 _ _ h2] at q
    cases q
  · simp
    omega
def sp_Shaped_cut (K : PySem.W.Frag) : Sp := mkSp (α := ShArg × List Bool × List Bool × List Bool) (fun a => [.ref a.1.p, .int (ones a.2.1 : Nat)]) (fun a H => ShPre K a.1 H ∧ a.1.n ≤ 1000 ∧ Kt a.1.r a.2.1 a.2.2.1 a.2.2.2)
  (fun a H v H' => Keep2 a.1.p a.1.al H H' ∧ ∃ x y, AB a.1.ps a.2.1.length (a.2.1.length + 1 + a.2.2.1.length + 1) x y ∧ ShapedAt K H' a.1.p a.1.al (putAB a.1.ps a.2.1.length (a.2.1.length + 1 + a.2.2.1.length + 1) [] x y) (a.1.n + 1))
theorem sc_Shaped_cut : FnScope ["self", "k", "low", "high", "text"] ["self", "k"] (defScope s_Shaped_cut) := ⟨rfl, rfl, rfl, by decide +kernel, rfl, by decide +kernel, by decide +kernel⟩
theorem ok_Shaped_cut {P : Program} {w : World} {K : PySem.W.Frag} {mg : Str → Option Value} {base : Heap} (T : Top K mg) (R_Shaped_look_at_knot : RdyM P w K mg base "Shaped" "look_at_knot" 2 ["self", "k"] (sp_Shaped_look_at_knot K)) (R_Shaped_ends_of : RdyM P w K mg base "Shaped" "ends_of" 2 ["self", "k"] (sp_Shaped_ends_of K)) (R_Shaped_row : RdyM P w K mg base "Shaped" "row" 1 ["self"] (sp_Shaped_row K)) (R_put_for : Rdy P w K mg base "put_for" 2 ["pieces", "low", "high", "text"] (sp_put_for K)) (R_Shaped_shape : RdyM P w K mg base "Shaped" "shape" 2 ["self", "parts"] (sp_Shaped_shape K)) (R_elders_of : Rdy P w K mg base "elders_of" 6 ["text"] (sp_elders_of K)) : RdyM P w K mg base "Shaped" "cut" 7 ["self", "k"] (sp_Shaped_cut K) := by
  refine rdyM T.c_Shaped T.m_Shaped_cut T.f_Shaped_cut sc_Shaped_cut (fun _ => rfl) (fun _ _ _ _ _ _ us hl => match us, hl with | [_, _], _ => rfl) fun cdv A outer s H a Q E hr hp hQ => ⟨_, (pss_cons (ps_expr (pe_m R_Shaped_look_at_knot (hr.mono (by decide)) (pv 0) (pa_cons (pv 1) pa_nil)))
      (pss_cons (ps_asg (pe_m R_Shaped_ends_of (hr.mono (by decide)) (pv 0) (pa_cons (pv 1) pa_nil)) (pg_tup rfl (pgs_cons (pg_name (i := 2) sc_Shaped_cut.nd rfl (Or.inl rfl)) (pgs_cons (pg_name (i := 3) sc_Shaped_cut.nd rfl (Or.inl rfl)) pgs_nil))))
      (pss_cons (ps_set (i := 4) sc_Shaped_cut.nd rfl (Or.inl rfl) (pe_slice sl_str (pe_m0 R_Shaped_row (hr.mono (by decide)) (pv 0)) (po_some (pv 2)) (po_some (pe_op (r := rAddI) op_add (pv 3) pe_int))))
      (pss_cons (ps_expr (pe_m R_Shaped_shape (hr.mono (by decide)) (pv 0) (pa_cons (pe_f R_put_for (hr.mono (by decide)) (pa_cons (pe_fld (pv 0) rfl) (pa_cons (pv 2) (pa_cons (pe_op (r := rAddI) op_add (pv 3) pe_int) (pa_cons pe_str pa_nil))))) pa_nil)))
      (pss_one (ps_ret (pe_f R_elders_of (hr.mono (by decide)) (pa_cons (pv 4) pa_nil)))))))), ?_⟩
  obtain ⟨a, A', B, C⟩ := a
  obtain ⟨hS, hn, hK⟩ := hp
  simp only at hS hn hK
  obtain ⟨⟨dx, pl, tl, ts, as, h⟩, ok⟩ := id hS
  have hrl := ok.sz
  have hkl := hK.len
  have hz : a.r.length ≤ sizeLine := Nat.le_trans hrl (by decide)
  have hfl : a.ps.flatten.length = a.r.length := by rw [ok.fl]
  walk_at "go"
  walk_at "rd"
  refine go_mtK h.ob (sh_no (by decide +kernel) (by decide +kernel) (by decide +kernel)) ?_
  walk_at "rd"
  refine ⟨(a, ones A'), rfl, ⟨hS, hK.lt⟩, ?_⟩
  rintro v H1 ⟨s1, rfl⟩
  walk_at "rd"
  have h1 := h.mono s1
  refine go_mtK h1.ob (sh_no (by decide +kernel) (by decide +kernel) (by decide +kernel)) ?_
  walk_at "rd"
  refine ⟨(a, A', B, C), rfl, ⟨⟨⟨dx, pl, tl, ts, as, h1⟩, ok⟩, hK⟩, ?_⟩
  rintro v H2 ⟨s2, t, rfl, h2⟩
  simp only at h2
  refine go_gtup h2 rfl ?_
  walk_at "rd"
  have h' := h1.mono s2
  refine go_mtK h'.ob (sh_no (by decide +kernel) (by decide +kernel) (by decide +kernel)) ?_
  walk_at "rd"
  refine ⟨a, rfl, ⟨⟨dx, pl, tl, ts, as, h'⟩, ok⟩, ?_⟩
  rintro v H3 ⟨eH, rfl⟩
  subst eH
  walk_at "rd"
  refine go_slS hz ?_
  have e1 : ((A'.length + 1 + B.length : Nat) : Int) + 1 = ((A'.length + 1 + B.length + 1 : Nat) : Int) := by omega
  rw [e1, sl_nat]
  have e2 : (a.r.drop A'.length).take (A'.length + 1 + B.length + 1 - A'.length) = true :: (B ++ [false]) := by
    rw [hK.e, List.drop_left]
    have e3 : A'.length + 1 + B.length + 1 - A'.length = B.length + 1 + 1 := by omega
    rw [e3, List.take_succ_cons, List.take_append, List.take_of_length_le (by omega)]
    have e4 : B.length + 1 - B.length = 1 := by omega
    rw [e4]
    rfl
  rw [e2]
  walk_at "rd"
  refine go_mtK h'.ob (sh_no (by decide +kernel) (by decide +kernel) (by decide +kernel)) ?_
  walk_at "rd"
  refine go_fldK h'.ob T.c_Shaped T.n_Shaped_parts sh_parts ?_
  walk_at "rd"
  rw [e1, S_nil]
  refine ⟨⟨pl, a.ps, A'.length, A'.length + 1 + B.length + 1, []⟩, rfl, ⟨h'.pt, ?_, ?_, ?_, ?_, ?_⟩, ?_⟩
  · show A'.length ≤ A'.length + 1 + B.length + 1
    omega
  · show A'.length + 1 + B.length + 1 ≤ a.ps.flatten.length
    omega
  · show a.ps.flatten.length ≤ 20000
    omega
  · have := ok.many
    show a.ps.length ≤ 20000
    omega
  · show 0 ≤ 20000
    omega
  rintro v H4 ⟨x, y, hAB, np, rfl, n4, s4, h4⟩
  simp only at hAB h4
  have hF := put_form hAB ok.fm (by omega) (by omega) (t := [])
  have hflat := put_flat hAB (by omega) (by omega) (t := [])
  have hql := flat_count _ fun q hq => (hF.sz q hq).1
  rw [hflat] at hql
  simp only [List.length_append, List.length_take, List.length_drop, List.length_nil] at hql
  have h5 := h'.mono s4
  have npne : np ≠ a.al := fun e => by
    rw [e, h'.pa] at n4
    cases n4
  walk_at "rd"
  refine ⟨(a, np, _), rfl, ⟨⟨dx, pl, tl, ts, as, h5⟩, hn, h4, npne, ?_⟩, ?_⟩
  · show (putAB a.ps A'.length (A'.length + 1 + B.length + 1) [] x y).length ≤ 20000
    omega
  rintro v H5 ⟨rfl, k5, hS5⟩
  simp only at k5 hS5
  walk_at "rd"
  refine ⟨true :: (B ++ [false]), rfl, ⟨?_, ?_⟩, ?_⟩
  · show Bal (B ++ [false]) 1
    have := (bal_up 1 hK.b)
    rw [bal_app]
    refine ⟨this.1, ?_⟩
    rw [this.2.1]
    exact rfl
  · show (true :: (B ++ [false])).length ≤ 8000
    simp
    omega
  rintro v H6 ⟨p6, rfl, s6⟩
  exact hQ _ _ ⟨keep2_trans (keep2_trans (keep2_same ((s1.trans s2).trans s4)) k5) (keep2_same s6), x, y, hAB, hS5.mono s6⟩

end
section
/-- one step of a reading; as many as go -/
local macro_rules | `(tactic| walk_at "st") => `(tactic| first
  | with_reducible refine go_seq ?_ | with_reducible refine go_asg ?_ | with_reducible refine go_gname ?_ | ((with_reducible refine go_var (v := ?vv) ?hv ?_); (case hv => rfl)) | with_reducible refine go_c ?_ | with_reducible refine go_op ?_
  | with_reducible refine go_add ?_ | with_reducible refine go_sub ?_ | with_reducible refine go_cb ?_ | with_reducible refine go_cons ?_ | with_reducible refine go_nil ?_ | with_reducible refine go_test ?_ | with_reducible refine go_isB ?_
  | with_reducible refine go_if ?_ | with_reducible refine go_lt ?_ | with_reducible refine go_le ?_ | with_reducible refine go_gt ?_ | with_reducible refine go_ge ?_ | with_reducible refine go_eqI ?_ | with_reducible refine go_neI ?_
  | with_reducible refine go_eq1 ?_ | with_reducible refine go_un ?_ | with_reducible refine go_neg ?_ | with_reducible refine go_tand ?_ | with_reducible refine go_tor ?_ | with_reducible refine go_tnot ?_ | with_reducible refine ifB_t ?_ | with_reducible refine ifB_f ?_ | with_reducible refine ifB_nf ?_ | with_reducible refine ifB_nt ?_
  | with_reducible refine go_andV ?_ | with_reducible refine go_orV ?_ | with_reducible refine go_notV ?_ | with_reducible refine go_chain ?_ | with_reducible refine go_tB ?_ | with_reducible refine go_nilt ?_
  | with_reducible refine go_ret ?_ | with_reducible refine go_retN ?_ | with_reducible refine go_next ?_ | with_reducible refine go_drop ?_ | with_reducible refine go_brk ?_ | with_reducible refine go_ct ?_
  | ((with_reducible refine go_aug (n := ?nn) ?ha ?_); (case ha => rfl)) | with_reducible refine go_augi ?_ | with_reducible refine go_lst ?_ | with_reducible refine go_tup ?_ | with_reducible refine go_pick ?_ | with_reducible refine go_picked ?_
  | with_reducible refine go_sl ?_ | with_reducible refine go_nopart ?_ | with_reducible refine go_part ?_ | with_reducible refine go_parti ?_ | with_reducible refine go_isN ?_ | with_reducible refine go_notN ?_ | with_reducible refine go_inS ?_ | with_reducible refine go_notInS ?_
  | with_reducible refine go_max2 ?_ | with_reducible refine go_min2 ?_ | with_reducible refine go_intB ?_ | with_reducible refine go_abs ?_ | with_reducible refine go_cl ?_ | with_reducible refine go_mt ?_ | with_reducible refine go_fld ?_
  | with_reducible refine go_bm ?_ | with_reducible refine go_bm0 ?_ | with_reducible refine ty_str ?_ | ((with_reducible refine ty_lst (xs := ?xx) ?ht ?_); (case ht => assumption))
  | with_reducible refine go_for ?_ | with_reducible refine go_iStr ?_ | with_reducible refine go_strK ?_ | with_reducible refine go_iList ?_ | with_reducible refine go_iEnS ?_ | with_reducible refine go_enSK ?_ | with_reducible refine go_iEnL ?_
  | with_reducible refine go_iR1 ?_ | with_reducible refine go_iR2 ?_ | with_reducible refine go_iR3 ?_ | with_reducible refine go_lc ?_
  | ((with_reducible refine go_div ?hc ?_); (case hc => decide)) | ((with_reducible refine go_mod ?hc ?_); (case hc => decide)) | ((with_reducible refine go_shr ?hc ?_); (case hc => decide)) | with_reducible refine go_and ?_ | with_reducible refine go_or ?_
  | ((with_reducible refine go_lenS ?hz ?_); (case hz => assumption)) | ((with_reducible refine go_lenL (xs := ?xx) ?hz ?_); (case hz => assumption)) | with_reducible refine go_sfld ?_ | with_reducible refine go_mk ?_ | with_reducible refine go_isiII ?_ | with_reducible refine go_isiIB ?_ | with_reducible refine go_isiSS ?_ | with_reducible refine go_gcons ?_ | with_reducible refine go_gnil ?_ | with_reducible refine go_and ?_ | with_reducible refine go_intS ?_ | with_reducible refine go_slT ?_ | with_reducible refine go_iTup ?_ | ((with_reducible refine go_mul ?hc ?_); (case hc => exact .inl ⟨by decide, by decide⟩)))
local macro_rules | `(tactic| walk_at "rd") => `(tactic| repeat walk_at "st")
local macro_rules | `(tactic| walk_at "go") => `(tactic| dsimp only [cxOf, Cx.nox, Cx.wish, L2.start, List.map, List.length_cons, List.length_nil, List.replicate, Nat.reduceAdd, Nat.reduceSub, List.cons_append, List.nil_append])
local macro_rules | `(tactic| walk_at "sz") => `(tactic| (refine Nat.le_trans (m := 100000) ?_ (by decide); first | (simp only [List.length_cons, List.length_nil, List.length_append, List.length_map]; omega) | omega))
/-- two lists of slots are the same -/
local macro_rules | `(tactic| walk_at "se") => `(tactic| ((try dsimp only [List.set]); (repeat' (first | rfl | refine congr (congrArg List.cons ?_) ?_ | refine congrArg (fun z => some (V.int z)) ?_)); (try omega)))
structure Gr where
  s : ShArg
  o : Option (List Bool × List Bool × List Bool)
  place : Nat
  ep : Addr
  os : List Int
  t : List Bool
  P : List Bool
  R : List Bool
structure GrPre (K : PySem.W.Frag) (g : Gr) (H : Hp) : Prop where
  sh : ShPre K g.s H
  nn : g.s.n ≤ 1000
  kt : KtO g.s.r g.o
  ep : H g.ep = some (LI g.os)
  wo : Wood g.os g.t
  sz : ones g.s.r + g.os.length ≤ 4000
  e : g.s.r = g.P ++ g.R
  le : g.place ≤ (kids g.s.r g.o).length
  md : g.place < (kids g.s.r g.o).length → ∃ B C, g.R = true :: (B ++ false :: C) ∧ Bal B 0 ∧ (kids g.s.r g.o)[g.place]? = some ((ones g.P : Nat) : Int)
  fn : g.place = (kids g.s.r g.o).length → match g.o with | none => g.R = [] | some (A, B, _) => g.P = A ++ true :: B
def sp_Shaped_graft (K : PySem.W.Frag) : Sp := mkSp (α := Gr) (fun g => [.ref g.s.p, kv g.o, .int (g.place : Nat), .ref g.ep]) (GrPre K)
  (fun g H v H' => Keep2 g.s.p g.s.al H H' ∧ ∃ x y, AB g.s.ps g.P.length g.P.length x y ∧ ShapedAt K H' g.s.p g.s.al (putAB g.s.ps g.P.length g.P.length g.t x y) (g.s.n + 1))
theorem sc_Shaped_graft : FnScope ["self", "k", "place", "elders", "children", "text", "at"] ["self", "k", "place", "elders"] (defScope s_Shaped_graft) := ⟨rfl, rfl, rfl, by decide +kernel, rfl, by decide +kernel, by decide +kernel⟩
theorem ok_Shaped_graft {P : Program} {w : World} {K : PySem.W.Frag} {mg : Str → Option Value} {base : Heap} (T : Top K mg) (R_Shaped_look_at_knot : RdyM P w K mg base "Shaped" "look_at_knot" 2 ["self", "k"] (sp_Shaped_look_at_knot K)) (R_Shaped_children : RdyM P w K mg base "Shaped" "children" 3 ["self", "k"] (sp_Shaped_children K)) (R_is_number : Rdy P w K mg base "is_number" 1 ["thing"] (sp_is_number K)) (R_look_at : Rdy P w K mg base "look_at" 1 ["elders"] (sp_look_at K)) (R_row_of : Rdy P w K mg base "row_of" 1 ["elders"] (sp_row_of K)) (R_Shaped_many_knots : RdyM P w K mg base "Shaped" "many_knots" 1 ["self"] (sp_Shaped_many_knots K)) (R_Shaped_ends_of : RdyM P w K mg base "Shaped" "ends_of" 2 ["self", "k"] (sp_Shaped_ends_of K)) (R_put_for : Rdy P w K mg base "put_for" 2 ["pieces", "low", "high", "text"] (sp_put_for K)) (R_Shaped_shape : RdyM P w K mg base "Shaped" "shape" 2 ["self", "parts"] (sp_Shaped_shape K)) : RdyM P w K mg base "Shaped" "graft" 4 ["self", "k", "place", "elders"] (sp_Shaped_graft K) := by
  obtain ⟨t_MOST_KNOTS, c_MOST_KNOTS⟩ := T.i_MOST_KNOTS
  refine rdyM T.c_Shaped T.m_Shaped_graft T.f_Shaped_graft sc_Shaped_graft (fun _ => rfl) (fun _ _ _ _ _ _ us hl => match us, hl with | [_, _, _, _], _ => rfl) fun cdv A outer s H a Q E hr hp hQ => ⟨_, (pss_cons (ps_if (pt_cmpR op_notN' (pv 1) pe_non (nomark _)) (pss_one (ps_expr (pe_m R_Shaped_look_at_knot (hr.mono (by decide)) (pv 0) (pa_cons (pv 1) pa_nil)))) pss_nil)
      (pss_cons (ps_set (i := 4) sc_Shaped_graft.nd rfl (Or.inl rfl) (pe_m R_Shaped_children (hr.mono (by decide)) (pv 0) (pa_cons (pv 1) pa_nil)))
      (pss_cons (ps_if (PW.pt (pw_or (pt_not (pt_val (pe_f R_is_number (hr.mono (by decide)) (pa_cons (pv 2) pa_nil)))) (pw_or1 (pt_cmpR (r := rGt) op_gt (pv 2) (pe_callB (r := cLenL K) call_len_seq rfl T.b_len (by decide +kernel) (pa_cons (pv 4) pa_nil)) (nomark _))))) (pss_one ps_never) pss_nil)
      (pss_cons (ps_set (i := 5) sc_Shaped_graft.nd rfl (Or.inl rfl) (pe_f R_row_of (hr.mono (by decide)) (pa_cons (pe_f R_look_at (hr.mono (by decide)) (pa_cons (pv 3) pa_nil)) pa_nil)))
      (pss_cons (ps_if (pt_cmpR (r := rGt) op_gt (pe_op (r := rAddI) op_add (pe_m0 R_Shaped_many_knots (hr.mono (by decide)) (pv 0)) (pe_op (r := rDivI) op_fdiv (pe_callB (r := cLenS) call_len_str rfl T.b_len (by decide +kernel) (pa_cons (pv 5) pa_nil)) pe_int)) (pe_glob (v := .int 4000) rfl c_MOST_KNOTS ⟨_, rfl⟩) (nomark _)) (pss_one ps_never) pss_nil)
      (pss_cons (ps_if (pt_cmpR (r := rLt) op_lt (pv 2) (pe_callB (r := cLenL K) call_len_seq rfl T.b_len (by decide +kernel) (pa_cons (pv 4) pa_nil)) (nomark _)) (pss_one (ps_set (i := 6) sc_Shaped_graft.nd rfl (Or.inl rfl) (pe_ix (r := rIxT K) ix_tup (pe_m R_Shaped_ends_of (hr.mono (by decide)) (pv 0) (pa_cons (pe_ix (r := rIxL K) ix_list (pv 4) (pv 2) (fun _ _ => rfl)) pa_nil)) pe_int (fun _ _ => rfl)))) (pss_one (ps_if (pt_cmpR op_isN' (pv 1) pe_non (nomark _)) (pss_one (ps_set (i := 6) sc_Shaped_graft.nd rfl (Or.inl rfl) (pe_op (r := rMulI) op_mul pe_int (pe_m0 R_Shaped_many_knots (hr.mono (by decide)) (pv 0))))) (pss_one (ps_set (i := 6) sc_Shaped_graft.nd rfl (Or.inl rfl) (pe_ix (r := rIxT K) ix_tup (pe_m R_Shaped_ends_of (hr.mono (by decide)) (pv 0) (pa_cons (pv 1) pa_nil)) pe_int (fun _ _ => rfl)))))))
      (pss_one (ps_expr (pe_m R_Shaped_shape (hr.mono (by decide)) (pv 0) (pa_cons (pe_f R_put_for (hr.mono (by decide)) (pa_cons (pe_fld (pv 0) rfl) (pa_cons (pv 6) (pa_cons (pv 6) (pa_cons (pv 5) pa_nil))))) pa_nil)))))))))), ?_⟩
  obtain ⟨a, o, place, ep, os, t, P, R⟩ := a
  obtain ⟨hS, hn, hK, hep, hwo, hsz, he, hle, hmd, hfn⟩ := hp
  simp only at hS hn hK hep hwo hsz he hle hmd hfn
  obtain ⟨⟨dx, pl, tl, ts, as, h⟩, ok⟩ := id hS
  have hrl := ok.sz
  have hz : a.r.length ≤ sizeLine := Nat.le_trans hrl (by decide)
  have hfl : a.ps.flatten.length = a.r.length := by rw [ok.fl]
  have hbl := bal_len ok.bal
  have hPl : P.length ≤ a.r.length := by rw [he]; simp
  obtain ⟨wl1, wl2⟩ := wood_len hwo
  have htz : t.length ≤ sizeLine := Nat.le_trans (m := 8000) (by omega) (by decide)
  walk_at "go"
  with_reducible refine go_join2 (fun σ' H' => Same H H' ∧ σ' = [some (.ref a.p), some (kv o), some (.int (place : Nat)), some (.ref ep), none, none, none]) (fun D2 hnx2 _ _ _ => ?_) ?_
  · cases o with
    | none =>
      dsimp only [kv]
      walk_at "rd"
      rw [dec_non]
      walk_at "rd"
      exact hnx2 _ _ ⟨Same.refl _, rfl⟩
    | some q =>
      obtain ⟨A', B, C⟩ := q
      replace hK : Kt a.r A' B C := hK
      dsimp only [kv]
      walk_at "rd"
      rw [dec_int]
      walk_at "rd"
      refine go_mtK h.ob (sh_no (by decide +kernel) (by decide +kernel) (by decide +kernel)) ?_
      walk_at "rd"
      refine ⟨(a, ones A'), rfl, ⟨hS, hK.lt⟩, ?_⟩
      rintro v H1 ⟨s1, rfl⟩
      exact hnx2 _ _ ⟨s1, rfl⟩
  rintro σ' H1 ⟨s1, rfl⟩
  have h1 := h.mono s1
  walk_at "rd"
  refine go_mtK h1.ob (sh_no (by decide +kernel) (by decide +kernel) (by decide +kernel)) ?_
  walk_at "rd"
  refine ⟨(a, o), rfl, ⟨⟨⟨dx, pl, tl, ts, as, h1⟩, ok⟩, hK⟩, ?_⟩
  rintro v H2 ⟨cp, rfl, n2, s2, h2⟩
  simp only at h2
  generalize hcs : kids a.r o = cs at *
  have h2' := h1.mono s2
  walk_at "rd"
  refine ⟨(place : Int), rfl, by show (0 : Int) ≤ (place : Int); omega, ?_⟩
  rintro v H3 ⟨eH, rfl⟩
  subst eH
  walk_at "rd"
  rw [List.length_map]
  refine ifB_n (decide_eq_false (by omega)) ?_
  walk_at "rd"
  have s02 := s1.trans s2
  refine ⟨(ep, os, t), rfl, ⟨s02 _ _ hep, hwo, by show os.length ≤ 4000; omega⟩, ?_⟩
  rintro v H4 ⟨p4, rfl, n4, s4, h4⟩
  walk_at "rd"
  refine ⟨(p4, os, t), rfl, ⟨h4, hwo, by show os.length ≤ 4000; omega⟩, ?_⟩
  rintro v H5 ⟨s5, hv⟩
  replace hv : v = .str (S t) := hv
  subst hv
  walk_at "rd"
  have h5 := (h2'.mono s4).mono s5
  have hcp := s5 _ _ (s4 _ _ h2)
  refine go_mtK h5.ob (sh_no (by decide +kernel) (by decide +kernel) (by decide +kernel)) ?_
  walk_at "rd"
  refine ⟨a, rfl, ⟨⟨dx, pl, tl, ts, as, h5⟩, ok⟩, ?_⟩
  rintro v H6 ⟨s6, rfl⟩
  walk_at "rd"
  refine ifB_n (decide_eq_false (by omega)) ?_
  have h6 := h5.mono s6
  have hcp6 := s6 _ _ hcp
  have s06 := ((s02.trans s4).trans s5).trans s6
  refine go_next ?_
  with_reducible refine go_join2 (fun σ' H' => Same H H' ∧ σ' = [some (.ref a.p), some (kv o), some (.int (place : Nat)), some (.ref ep), some (.ref cp), some (.str (S t)), some (.int (P.length : Nat))]) (fun D2 hnx2 _ _ _ => ?_) ?_
  · walk_at "rd"
    rw [List.length_map]
    refine ifB_dec (fun q1 => ?_) (fun q1 => ?_)
    · obtain ⟨B, C, hR, hB, hat⟩ := hmd (by omega)
      have hK2 : Kt a.r P B C := ⟨by rw [he, hR], hB⟩
      walk_at "rd"
      refine go_mtK h6.ob (sh_no (by decide +kernel) (by decide +kernel) (by decide +kernel)) ?_
      walk_at "rd"
      refine go_ixL hcp6 (at_i place rfl (map_at hat)) ?_
      walk_at "rd"
      refine ⟨(a, P, B, C), rfl, ⟨⟨⟨dx, pl, tl, ts, as, h6⟩, ok⟩, hK2⟩, ?_⟩
      rintro v H7 ⟨s7, t7, rfl, h7⟩
      simp only at h7
      walk_at "rd"
      refine go_ixT h7 (at_i 0 rfl rfl) ?_
      walk_at "rd"
      exact hnx2 _ _ ⟨s06.trans s7, rfl⟩
    · have hpl := hfn (by omega)
      cases o with
      | none =>
        dsimp only [kv]
        walk_at "rd"
        refine ifB_y dec_non ?_
        walk_at "rd"
        refine go_mtK h6.ob (sh_no (by decide +kernel) (by decide +kernel) (by decide +kernel)) ?_
        walk_at "rd"
        refine ⟨a, rfl, ⟨⟨dx, pl, tl, ts, as, h6⟩, ok⟩, ?_⟩
        rintro v H7 ⟨s7, rfl⟩
        walk_at "rd"
        have hPr : P.length = a.r.length := by
          have hR0 : R = [] := hpl
          rw [he, hR0]
          simp
        have e2 : (2 : Int) * (ones a.r : Nat) = (P.length : Nat) := by omega
        rw [e2]
        exact hnx2 _ _ ⟨s06.trans s7, rfl⟩
      | some q =>
        obtain ⟨A', B, C⟩ := q
        replace hK : Kt a.r A' B C := hK
        have hP2 : P = A' ++ true :: B := hpl
        have hPr : P.length = A'.length + 1 + B.length := by
          rw [hP2]
          simp
          omega
        dsimp only [kv]
        walk_at "rd"
        refine ifB_n (dec_int _) ?_
        walk_at "rd"
        refine go_mtK h6.ob (sh_no (by decide +kernel) (by decide +kernel) (by decide +kernel)) ?_
        walk_at "rd"
        refine ⟨(a, A', B, C), rfl, ⟨⟨⟨dx, pl, tl, ts, as, h6⟩, ok⟩, hK⟩, ?_⟩
        rintro v H7 ⟨s7, t7, rfl, h7⟩
        simp only at h7
        walk_at "rd"
        refine go_ixT h7 (at_i 1 rfl rfl) ?_
        walk_at "rd"
        refine hnx2 _ _ ⟨s06.trans s7, ?_⟩
        rw [hPr]
        rfl
  rintro σ' H7 ⟨s7, rfl⟩
  have h7 := h.mono s7
  walk_at "rd"
  refine go_mtK h7.ob (sh_no (by decide +kernel) (by decide +kernel) (by decide +kernel)) ?_
  walk_at "rd"
  refine go_fldK h7.ob T.c_Shaped T.n_Shaped_parts sh_parts ?_
  walk_at "rd"
  refine ⟨⟨pl, a.ps, P.length, P.length, t⟩, rfl, ⟨h7.pt, Nat.le_refl _, ?_, ?_, ?_, ?_⟩, ?_⟩
  · show P.length ≤ a.ps.flatten.length
    omega
  · show a.ps.flatten.length ≤ 20000
    omega
  · have := ok.many
    show a.ps.length ≤ 20000
    omega
  · show t.length ≤ 20000
    omega
  rintro v H8 ⟨x, y, hAB, np, rfl, n8, s8, h8⟩
  simp only at hAB h8
  have hF := put_form hAB ok.fm (Nat.le_refl _) (by omega) (t := t)
  have hflat := put_flat hAB (Nat.le_refl _) (by omega) (t := t)
  have hql := flat_count _ fun q hq => (hF.sz q hq).1
  rw [hflat] at hql
  simp only [List.length_append, List.length_take, List.length_drop] at hql
  have h9 := h7.mono s8
  have npne : np ≠ a.al := fun e => by
    rw [e, h7.pa] at n8
    cases n8
  walk_at "rd"
  refine ⟨(a, np, _), rfl, ⟨⟨dx, pl, tl, ts, as, h9⟩, hn, h8, npne, ?_⟩, ?_⟩
  · show (putAB a.ps P.length P.length t x y).length ≤ 20000
    omega
  rintro v H9 ⟨rfl, k9, hS9⟩
  simp only at k9 hS9
  exact hQ _ _ ⟨keep2_trans (keep2_same (s7.trans s8)) k9, x, y, hAB, hS9⟩

end
section
/-- one step of a reading; as many as go -/
local macro_rules | `(tactic| walk_at "st") => `(tactic| first
  | with_reducible refine go_seq ?_ | with_reducible refine go_asg ?_ | with_reducible refine go_gname ?_ | ((with_reducible refine go_var (v := ?vv) ?hv ?_); (case hv => rfl)) | with_reducible refine go_c ?_ | with_reducible refine go_op ?_
  | with_reducible refine go_add ?_ | with_reducible refine go_sub ?_ | with_reducible refine go_cb ?_ | with_reducible refine go_cons ?_ | with_reducible refine go_nil ?_ | with_reducible refine go_test ?_ | with_reducible refine go_isB ?_
  | with_reducible refine go_if ?_ | with_reducible refine go_lt ?_ | with_reducible refine go_le ?_ | with_reducible refine go_gt ?_ | with_reducible refine go_ge ?_ | with_reducible refine go_eqI ?_ | with_reducible refine go_neI ?_
  | with_reducible refine go_eq1 ?_ | with_reducible refine go_un ?_ | with_reducible refine go_neg ?_ | with_reducible refine go_tand ?_ | with_reducible refine go_tor ?_ | with_reducible refine go_tnot ?_ | with_reducible refine ifB_t ?_ | with_reducible refine ifB_f ?_ | with_reducible refine ifB_nf ?_ | with_reducible refine ifB_nt ?_
  | with_reducible refine go_andV ?_ | with_reducible refine go_orV ?_ | with_reducible refine go_notV ?_ | with_reducible refine go_chain ?_ | with_reducible refine go_tB ?_ | with_reducible refine go_nilt ?_
  | with_reducible refine go_ret ?_ | with_reducible refine go_retN ?_ | with_reducible refine go_next ?_ | with_reducible refine go_drop ?_ | with_reducible refine go_brk ?_ | with_reducible refine go_ct ?_
  | ((with_reducible refine go_aug (n := ?nn) ?ha ?_); (case ha => rfl)) | with_reducible refine go_augi ?_ | with_reducible refine go_lst ?_ | with_reducible refine go_tup ?_ | with_reducible refine go_pick ?_ | with_reducible refine go_picked ?_
  | with_reducible refine go_sl ?_ | with_reducible refine go_nopart ?_ | with_reducible refine go_part ?_ | with_reducible refine go_parti ?_ | with_reducible refine go_isN ?_ | with_reducible refine go_notN ?_ | with_reducible refine go_inS ?_ | with_reducible refine go_notInS ?_
  | with_reducible refine go_max2 ?_ | with_reducible refine go_min2 ?_ | with_reducible refine go_intB ?_ | with_reducible refine go_abs ?_ | with_reducible refine go_cl ?_ | with_reducible refine go_mt ?_ | with_reducible refine go_fld ?_
  | with_reducible refine go_bm ?_ | with_reducible refine go_bm0 ?_ | with_reducible refine ty_str ?_ | ((with_reducible refine ty_lst (xs := ?xx) ?ht ?_); (case ht => assumption))
  | with_reducible refine go_for ?_ | with_reducible refine go_iStr ?_ | with_reducible refine go_strK ?_ | with_reducible refine go_iList ?_ | with_reducible refine go_iEnS ?_ | with_reducible refine go_enSK ?_ | with_reducible refine go_iEnL ?_
  | with_reducible refine go_iR1 ?_ | with_reducible refine go_iR2 ?_ | with_reducible refine go_iR3 ?_ | with_reducible refine go_lc ?_
  | ((with_reducible refine go_div ?hc ?_); (case hc => decide)) | ((with_reducible refine go_mod ?hc ?_); (case hc => decide)) | ((with_reducible refine go_shr ?hc ?_); (case hc => decide)) | with_reducible refine go_and ?_ | with_reducible refine go_or ?_
  | ((with_reducible refine go_lenS ?hz ?_); (case hz => assumption)) | ((with_reducible refine go_lenL (xs := ?xx) ?hz ?_); (case hz => assumption)) | with_reducible refine go_sfld ?_ | with_reducible refine go_mk ?_ | with_reducible refine go_isiII ?_ | with_reducible refine go_isiIB ?_ | with_reducible refine go_isiSS ?_ | with_reducible refine go_gcons ?_ | with_reducible refine go_gnil ?_ | with_reducible refine go_and ?_ | with_reducible refine go_intS ?_ | with_reducible refine go_slT ?_ | with_reducible refine go_iTup ?_ | ((with_reducible refine go_mul ?hc ?_); (case hc => exact .inl ⟨by decide, by decide⟩)))
local macro_rules | `(tactic| walk_at "rd") => `(tactic| repeat walk_at "st")
local macro_rules | `(tactic| walk_at "go") => `(tactic| dsimp only [cxOf, Cx.nox, Cx.wish, L2.start, List.map, List.length_cons, List.length_nil, List.replicate, Nat.reduceAdd, Nat.reduceSub, List.cons_append, List.nil_append])
local macro_rules | `(tactic| walk_at "sz") => `(tactic| (refine Nat.le_trans (m := 100000) ?_ (by decide); first | (simp only [List.length_cons, List.length_nil, List.length_append, List.length_map]; omega) | omega))
/-- two lists of slots are the same -/
local macro_rules | `(tactic| walk_at "se") => `(tactic| ((try dsimp only [List.set]); (repeat' (first | rfl | refine congr (congrArg List.cons ?_) ?_ | refine congrArg (fun z => some (V.int z)) ?_)); (try omega)))
/-! ## the law's own defs -/
theorem sql_same {K : PySem.W.Frag} {H H' : Hp} {a : Addr} {xs : List V} (h : SqL K H a xs) (s : Same H H') : SqL K H' a xs := h.elim (fun h => .inl (h.elim (fun h => .inl (s _ _ h)) fun ⟨o, h⟩ => .inr ⟨o, s _ _ h⟩)) fun h => .inr h
def sp__law_cell_at (K : PySem.W.Frag) : Sp := mkSp (α := Addr × List Int × Nat) (fun a => [.ref a.1, .int (a.2.2 : Nat)]) (fun a H => SqL K H a.1 (a.2.1.map V.int)) (fun _ H v H' => H' = H ∧ ∃ n, v = .int n)
theorem sc__law_cell_at : FnScope ["_law_script", "_law_k"] ["_law_script", "_law_k"] (defScope s__law_cell_at) := ⟨rfl, rfl, rfl, by decide +kernel, rfl, by decide +kernel, by decide +kernel⟩
theorem ok__law_cell_at {P : Program} {w : World} {K : PySem.W.Frag} {mg : Str → Option Value} {base : Heap} (T : Top K mg)  : Rdy P w K mg base "_law_cell_at" 1 ["_law_script", "_law_k"] (sp__law_cell_at K) := by
  refine rdy T.g__law_cell_at T.f__law_cell_at sc__law_cell_at (fun _ => rfl) (fun _ _ _ _ _ _ us hl => match us, hl with | [_, _], _ => rfl) fun cdv A outer s H a Q E hr hp hQ => ⟨_, (pss_cons (ps_if (pt_cmpR (r := rLt) op_lt (pv 1) (pe_callB (r := cLenL K) call_len_seq rfl T.b_len (by decide +kernel) (pa_cons (pv 0) pa_nil)) (nomark _)) (pss_one (ps_ret (pe_ix (r := rIxL K) ix_list (pv 0) (pv 1) (fun _ _ => rfl)))) pss_nil)
      (pss_one (ps_ret pe_int))), ?_⟩
  obtain ⟨p, ns, k⟩ := a
  replace hp : SqL K H p (ns.map V.int) := hp
  walk_at "go"
  walk_at "rd"
  refine go_lenLq hp ?_
  walk_at "rd"
  rw [List.length_map]
  refine ifB_dec (fun q => ?_) (fun q => ?_)
  · walk_at "rd"
    have hk : k < ns.length := by omega
    refine go_ixLq hp (at_i k rfl (map_at (List.getElem?_eq_getElem hk))) ?_
    exact hQ _ _ ⟨rfl, _, rfl⟩
  · walk_at "rd"
    exact hQ _ _ ⟨rfl, _, rfl⟩
/-- what mixed tells -/
def mixN (c k : Int) : Int := ((c % 2147483647 + 19) * (48271 + 2 * k * k) % 2147483629 + 7 * k) * (69621 + 2 * k) % 2147483587
theorem mixN_nn (c k : Int) : 0 ≤ mixN c k := Int.emod_nonneg _ (by decide)
def sp__law_mixed (_ : PySem.W.Frag) : Sp := mkSp (α := Int × Int) (fun a => [.int a.1, .int a.2]) (fun a _ => 0 ≤ a.2 ∧ a.2 ≤ 1000) (fun a H v H' => H' = H ∧ v = .int (mixN a.1 a.2))
theorem sc__law_mixed : FnScope ["_law_cell", "_law_k", "_law_once"] ["_law_cell", "_law_k"] (defScope s__law_mixed) := ⟨rfl, rfl, rfl, by decide +kernel, rfl, by decide +kernel, by decide +kernel⟩
theorem ok__law_mixed {P : Program} {w : World} {K : PySem.W.Frag} {mg : Str → Option Value} {base : Heap} (T : Top K mg)  : Rdy P w K mg base "_law_mixed" 1 ["_law_cell", "_law_k"] (sp__law_mixed K) := by
  refine rdy T.g__law_mixed T.f__law_mixed sc__law_mixed (fun _ => rfl) (fun _ _ _ _ _ _ us hl => match us, hl with | [_, _], _ => rfl) fun cdv A outer s H a Q E hr hp hQ => ⟨_, (pss_cons (ps_set (i := 2) sc__law_mixed.nd rfl (Or.inl rfl) (pe_op (r := rModI) op_mod (pe_op (r := rMulI) op_mul (pe_op (r := rAddI) op_add (pe_op (r := rModI) op_mod (pv 0) pe_int) pe_int) (pe_op (r := rAddI) op_add pe_int (pe_op (r := rMulI) op_mul (pe_op (r := rMulI) op_mul pe_int (pv 1)) (pv 1)))) pe_int))
      (pss_one (ps_ret (pe_op (r := rModI) op_mod (pe_op (r := rMulI) op_mul (pe_op (r := rAddI) op_add (pv 2) (pe_op (r := rMulI) op_mul pe_int (pv 1))) (pe_op (r := rAddI) op_add pe_int (pe_op (r := rMulI) op_mul pe_int (pv 1)))) pe_int)))), ?_⟩
  obtain ⟨c, k⟩ := a
  obtain ⟨h1, h2⟩ := hp
  simp only at h1 h2
  have m1 := Int.emod_nonneg c (show (2147483647 : Int) ≠ 0 by decide)
  have m2 := Int.emod_lt_of_pos c (show (0 : Int) < 2147483647 by decide)
  walk_at "go"
  walk_at "rd"
  refine go_mul (.inl ⟨by omega, by omega⟩) ?_
  walk_at "rd"
  refine go_mul (.inl ⟨by omega, by omega⟩) ?_
  walk_at "rd"
  generalize hx : (c % 2147483647 + 19) * (48271 + 2 * k * k) = x
  have m3 := Int.emod_nonneg x (show (2147483629 : Int) ≠ 0 by decide)
  have m4 := Int.emod_lt_of_pos x (show (0 : Int) < 2147483629 by decide)
  refine go_mul (.inl ⟨by omega, by omega⟩) ?_
  walk_at "rd"
  refine hQ _ _ ⟨rfl, ?_⟩
  rw [← hx]
  rfl
def sp__law_digits (K : PySem.W.Frag) : Sp := mkSp (α := Addr × List Int × Nat × Nat) (fun a => [.ref a.1, .int (a.2.2.1 : Nat), .int (a.2.2.2 : Nat)]) (fun a H => SqL K H a.1 (a.2.1.map V.int) ∧ a.2.2.2 ≤ 100)
  (fun a H v H' => ∃ ds : List Int, ds.length = a.2.2.2 ∧ NewO (LI ds) H v H')
theorem sc__law_digits : FnScope ["_law_script", "_law_at", "_law_many", "_law_left", "_law_found", "_law_k"] ["_law_script", "_law_at", "_law_many"] (defScope s__law_digits) := ⟨rfl, rfl, rfl, by decide +kernel, rfl, by decide +kernel, by decide +kernel⟩
theorem ok__law_digits {P : Program} {w : World} {K : PySem.W.Frag} {mg : Str → Option Value} {base : Heap} (T : Top K mg) (R__law_cell_at : Rdy P w K mg base "_law_cell_at" 1 ["_law_script", "_law_k"] (sp__law_cell_at K)) (R__law_mixed : Rdy P w K mg base "_law_mixed" 1 ["_law_cell", "_law_k"] (sp__law_mixed K)) : Rdy P w K mg base "_law_digits" 2 ["_law_script", "_law_at", "_law_many"] (sp__law_digits K) := by
  refine rdy T.g__law_digits T.f__law_digits sc__law_digits (fun _ => rfl) (fun _ _ _ _ _ _ us hl => match us, hl with | [_, _, _], _ => rfl) fun cdv A outer s H a Q E hr hp hQ => ⟨_, (pss_cons (ps_set (i := 3) sc__law_digits.nd rfl (Or.inl rfl) (pe_op (r := rMulI) op_mul (pe_callB (r := cAbs) call_abs rfl T.b_abs (by decide +kernel) (pa_cons (pe_f R__law_cell_at (hr.mono (by decide)) (pa_cons (pv 0) (pa_cons (pe_op (r := rAddI) op_add (pv 1) pe_int) pa_nil))) pa_nil)) (pe_op (r := rSubI) op_sub pe_int (pe_op (r := rModI) op_mod (pe_f R__law_cell_at (hr.mono (by decide)) (pa_cons (pv 0) (pa_cons (pv 1) pa_nil))) pe_int))))
      (pss_cons (ps_set (i := 4) sc__law_digits.nd rfl (Or.inl rfl) (pe_lst pa_nil))
      (pss_cons (ps_for PassesOwn.never rfl (pi_range1 rfl T.b_range (pa_cons (pv 2) pa_nil)) (pg_name (i := 5) sc__law_digits.nd rfl (Or.inl rfl)) (pss_one (ps_if (pt_cmpR (r := rGt) op_gt (pv 3) pe_int (nomark _)) (pss_cons (ps_expr (pe_bm PySem.F.plainAttrs_list PySem.F.slot_list_append PySem.F.type_list_append mt_append (pv 4) (pa_cons (pe_op (r := rModI) op_mod (pv 3) pe_int) pa_nil)))
      (pss_one (ps_set (i := 3) sc__law_digits.nd rfl (Or.inl rfl) (pe_op (r := rDivI) op_fdiv (pv 3) pe_int)))) (pss_one (ps_expr (pe_bm PySem.F.plainAttrs_list PySem.F.slot_list_append PySem.F.type_list_append mt_append (pv 4) (pa_cons (pe_op (r := rModI) op_mod (pe_f R__law_mixed (hr.mono (by decide)) (pa_cons (pe_f R__law_cell_at (hr.mono (by decide)) (pa_cons (pv 0) (pa_cons (pe_op (r := rAddI) op_add (pe_op (r := rAddI) op_add (pv 1) pe_int) (pe_op (r := rModI) op_mod (pv 5) pe_int)) pa_nil))) (pa_cons (pv 5) pa_nil))) pe_int) pa_nil)))))))
      (pss_one (ps_ret (pv 4)))))), ?_⟩
  obtain ⟨p, ns, at0, many⟩ := a
  obtain ⟨hp, hm⟩ := hp
  simp only at hp hm
  walk_at "go"
  walk_at "rd"
  refine ⟨(p, ns, at0 + 1), rfl, hp, ?_⟩
  rintro v H' ⟨eH, x1, rfl⟩
  subst eH
  walk_at "rd"
  refine ⟨(p, ns, at0), rfl, hp, ?_⟩
  rintro v H' ⟨eH, x2, rfl⟩
  subst eH
  walk_at "rd"
  have m1 := Int.emod_nonneg x2 (show (2 : Int) ≠ 0 by decide)
  have m2 := Int.emod_lt_of_pos x2 (show (0 : Int) < 2 by decide)
  refine go_mul (.inr ⟨by omega, by omega⟩) ?_
  walk_at "rd"
  refine go_newL (by walk_at "sz") fun f H1 n1 s1 h1 => ?_
  walk_at "rd"
  refine go_rng1 (by omega) ?_
  refine loop_rng (fun i σ' H2 => Same H' H2 ∧ (∃ ds : List Int, H2 f = some (LI ds) ∧ ds.length = i) ∧ ∃ x y, σ' = [some (.ref p), some (.int (at0 : Nat)), some (.int (many : Nat)), some (.int x), some (.ref f), y]) ?_ ?_ ?_
  · exact ⟨s1, ⟨[], h1, rfl⟩, _, none, rfl⟩
  · rintro i σ' H2 hi ⟨s2, ⟨ds, h2, hd⟩, x, y, rfl⟩
    rw [Int.zero_add]
    have hz : (ds.map V.int).length < sizeLine := by rw [List.length_map]; exact Nat.lt_of_le_of_lt (m := 100) (by omega) (by decide)
    walk_at "rd"
    refine ifB_dec (fun q => ?_) (fun q => ?_)
    · walk_at "rd"
      refine go_append h2 hz ?_
      walk_at "rd"
      exact ⟨same_mut s2 n1, ⟨_, li_snoc, by simp [hd]⟩, _, _, rfl⟩
    · walk_at "rd"
      have e1 : (at0 : Int) + 1 + (i : Int) % 9 = ((at0 + 1 + i % 9 : Nat) : Int) := by omega
      rw [e1]
      refine ⟨(p, ns, at0 + 1 + i % 9), rfl, sql_same hp s2, ?_⟩
      rintro v H3 ⟨eH, x3, rfl⟩
      subst eH
      walk_at "rd"
      refine ⟨(x3, (i : Int)), rfl, ⟨by show (0 : Int) ≤ (i : Int); omega, by show (i : Int) ≤ 1000; omega⟩, ?_⟩
      rintro v H4 ⟨eH, rfl⟩
      subst eH
      walk_at "rd"
      refine go_append h2 hz ?_
      walk_at "rd"
      exact ⟨same_mut s2 n1, ⟨_, li_snoc, by simp [hd]⟩, _, _, rfl⟩
  · rintro σ' H2 ⟨s2, ⟨ds, h2, hd⟩, x, y, rfl⟩
    walk_at "rd"
    exact hQ _ _ ⟨ds, hd, f, rfl, n1, s2, h2⟩
def sp__law_wood (_ : PySem.W.Frag) : Sp := mkSp (α := Addr × List Int) (fun a => [.ref a.1]) (fun a H => H a.1 = some (LI a.2) ∧ a.2.length ≤ 1000)
  (fun a H v H' => ∃ (es : List Int) (r : List Bool), es.length = a.2.length ∧ Wood es r ∧ NewO (LI es) H v H')
/-- the elder at a depth of the stack -/
def topE (st : List Nat) (d : Nat) : Int := match d with | 0 => -1 | d' + 1 => ((st[d']?.getD 0 : Nat) : Int)
theorem ns_top {pre st : List Nat} {d : Nat} (h : StkInv pre st) (hd : d ≤ st.length) : NS pre pre.length d (topE st d) := by
  have q := ns_push h hd
  cases d with
  | zero => exact q
  | succ d => exact q
theorem LN_take (st : List Nat) (d : Nat) : (st.map fun (n : Nat) => V.int (n : Int)).take d = (st.take d).map fun (n : Nat) => V.int (n : Int) := by rw [List.map_take]
theorem sc__law_wood : FnScope ["_law_digits_here", "_law_elders", "_law_path", "_law_k"] ["_law_digits_here"] (defScope s__law_wood) := ⟨rfl, rfl, rfl, by decide +kernel, rfl, by decide +kernel, by decide +kernel⟩
theorem ok__law_wood {P : Program} {w : World} {K : PySem.W.Frag} {mg : Str → Option Value} {base : Heap} (T : Top K mg)  : Rdy P w K mg base "_law_wood" 1 ["_law_digits_here"] (sp__law_wood K) := by
  refine rdy T.g__law_wood T.f__law_wood sc__law_wood (fun _ => rfl) (fun _ _ _ _ _ _ us hl => match us, hl with | [_], _ => rfl) fun cdv A outer s H a Q E hr hp hQ => ⟨_, (pss_cons (ps_set (i := 1) sc__law_wood.nd rfl (Or.inl rfl) (pe_lst pa_nil))
      (pss_cons (ps_set (i := 2) sc__law_wood.nd rfl (Or.inl rfl) (pe_lst pa_nil))
      (pss_cons (ps_for PassesOwn.never rfl (pi_range1 rfl T.b_range (pa_cons (pe_callB (r := cLenL K) call_len_seq rfl T.b_len (by decide +kernel) (pa_cons (pv 0) pa_nil)) pa_nil)) (pg_name (i := 3) sc__law_wood.nd rfl (Or.inl rfl)) (pss_cons (ps_set (i := 2) sc__law_wood.nd rfl (Or.inl rfl) (pe_slice sl_list (pv 2) po_none (po_some (pe_op (r := rSubI) op_sub (pe_callB (r := cLenL K) call_len_seq rfl T.b_len (by decide +kernel) (pa_cons (pv 2) pa_nil)) (pe_op (r := rModI) op_mod (pe_ix (r := rIxL K) ix_list (pv 0) (pv 3) (fun _ _ => rfl)) (pe_op (r := rAddI) op_add (pe_callB (r := cLenL K) call_len_seq rfl T.b_len (by decide +kernel) (pa_cons (pv 2) pa_nil)) pe_int))))))
      (pss_cons (ps_expr (pe_bm PySem.F.plainAttrs_list PySem.F.slot_list_append PySem.F.type_list_append mt_append (pv 1) (pa_cons (pe_ix (r := rIxL K) ix_list (pe_op op_cat (pe_lst (pa_cons (pe_un (r := rNegI) un_neg pe_int) pa_nil)) (pv 2)) (pe_un (r := rNegI) un_neg pe_int) (fun _ _ => rfl)) pa_nil)))
      (pss_one (ps_set (i := 2) sc__law_wood.nd rfl (Or.inl rfl) (pe_op op_cat (pv 2) (pe_lst (pa_cons (pv 3) pa_nil))))))))
      (pss_one (ps_ret (pv 1)))))), ?_⟩
  obtain ⟨p, ds⟩ := a
  obtain ⟨hp, hm⟩ := hp
  simp only at hp hm
  walk_at "go"
  walk_at "rd"
  refine go_newL (by walk_at "sz") fun f H1 n1 s1 h1 => ?_
  walk_at "rd"
  refine go_newL (by walk_at "sz") fun w0 H2 n2 s2 h2 => ?_
  walk_at "rd"
  refine go_lenL (s2 _ _ (s1 _ _ hp)) ?_
  walk_at "rd"
  rw [List.length_map]
  refine go_rng1 (by omega) ?_
  refine loop_rng (fun i σ' H' => Same H H' ∧ (∃ es dps, H' f = some (LI es) ∧ WoodD es dps ∧ es.length = i ∧ ∃ w st, H' w = some (LN st) ∧ w ≠ f ∧ StkInv dps st ∧ st.length ≤ i ∧ ∃ y, σ' = [some (.ref p), some (.ref f), some (.ref w), y])) ?_ ?_ ?_
  · refine ⟨s1.trans s2, [], [], s2 _ _ h1, woodD_nil, rfl, w0, [], h2, fun e => ?_, stk_nil, Nat.le_refl _, none, rfl⟩
    rw [e, h1] at n2
    cases n2
  · rintro i σ' H' hi ⟨s3, es, dps, h3, hW, he, w, st, h4, hne, hst, hsl, y, rfl⟩
    rw [Int.zero_add]
    have hdl : dps.length = i := by rw [← hW.1]; exact he
    walk_at "rd"
    rw [List.length_map]
    refine go_ixL (s3 _ _ hp) (at_i i rfl (map_at (List.getElem?_eq_getElem hi))) ?_
    walk_at "rd"
    rw [List.length_map]
    refine go_mod (by omega) ?_
    generalize hg : ds[i] % ((st.length : Int) + 1) = g
    have m1 : 0 ≤ g := by rw [← hg]; exact Int.emod_nonneg _ (by omega)
    have m2 : g < (st.length : Int) + 1 := by rw [← hg]; exact Int.emod_lt_of_pos _ (by omega)
    obtain ⟨d, hd⟩ : ∃ d : Nat, (st.length : Int) - g = (d : Int) := ⟨((st.length : Int) - g).toNat, by omega⟩
    have hdl2 : d ≤ st.length := by omega
    walk_at "rd"
    rw [hd]
    refine go_slL (SqL.of h4) fun w2 H5 n5 s5 h5 => ?_
    rw [cutV_to, LN_take] at h5
    walk_at "rd"
    refine ty_lst (s5 _ _ h3) ?_
    walk_at "rd"
    refine go_newL (by walk_at "sz") fun c1 H6 n6 s6 h6 => ?_
    walk_at "rd"
    refine go_cat h6 (s6 _ _ h5) (by rw [List.length_map, List.length_take]; exact Nat.le_trans (m := 2000) (by show 1 + _ ≤ _; omega) (by decide)) fun c2 H7 n7 s7 h7 => ?_
    walk_at "rd"
    have hlast : ([V.int (-1)] ++ (st.take d).map fun (n : Nat) => V.int (n : Int)).getLast? = some (.int (topE st d)) := by
      cases d with
      | zero => rfl
      | succ d =>
        rw [take_ex hdl2, List.map_append, ← List.append_assoc]
        rw [show List.map (fun (n : Nat) => V.int (n : Int)) [st[d]] = [V.int ((st[d] : Nat) : Int)] from rfl, List.getLast?_concat]
        simp [topE, List.getElem?_eq_getElem (show d < st.length from hdl2)]
    refine go_ixL h7 (last_i hlast) ?_
    walk_at "rd"
    have s57 := (s5.trans s6).trans s7
    refine go_append (s57 _ _ h3) (by rw [List.length_map]; exact Nat.lt_of_le_of_lt (m := 1000) (by omega) (by decide)) ?_
    walk_at "rd"
    generalize hH8 : upd H7 f _ = H8
    have s38 : Same H H8 := by
      rw [← hH8]
      exact same_mut (s3.trans s57) n1
    have w2f : w2 ≠ f := fun e => by
      rw [e, h3] at n5
      cases n5
    have h8 : H8 w2 = some (LN (st.take d)) := by
      rw [← hH8, upd_ne w2f]
      exact s7 _ _ (s6 _ _ h5)
    refine go_newL (by walk_at "sz") fun c3 H9 n9 s9 h9 => ?_
    walk_at "rd"
    refine go_cat (s9 _ _ h8) h9 (by rw [List.length_map, List.length_take]; exact Nat.le_trans (m := 2000) (by show _ + 1 ≤ _; omega) (by decide)) fun c4 H10 n10 s10 h10 => ?_
    walk_at "rd"
    have h8f : ∃ es', H8 f = some (LI es') ∧ es' = es ++ [topE st d] := by
      refine ⟨_, ?_, rfl⟩
      rw [← hH8]
      exact li_snoc
    obtain ⟨es', h8f, ees⟩ := h8f
    refine ⟨(s38.trans s9).trans s10, es', dps ++ [d], s10 _ _ (s9 _ _ h8f), ?_, ?_, c4, st.take d ++ [dps.length], ?_, fun e => ?_, stk_push hst hdl2, ?_, _, rfl⟩
    · rw [ees]
      exact woodD_snoc hW (ns_top hst hdl2)
    · rw [ees]
      simp [he]
    · rw [h10, LN_snoc, hdl]
    · rw [e, s9 _ _ h8f] at n10
      cases n10
    · simp
      omega
  · rintro σ' H' ⟨s3, es, dps, h3, hW, he, w, st, h4, hne, hst, hsl, y, rfl⟩
    walk_at "rd"
    exact hQ _ _ ⟨es, rowFrom dps 0, he, wood_of hW, f, rfl, n1, s3, h3⟩

end
section
/-- one step of a reading; as many as go -/
local macro_rules | `(tactic| walk_at "st") => `(tactic| first
  | with_reducible refine go_seq ?_ | with_reducible refine go_asg ?_ | with_reducible refine go_gname ?_ | ((with_reducible refine go_var (v := ?vv) ?hv ?_); (case hv => rfl)) | with_reducible refine go_c ?_ | with_reducible refine go_op ?_
  | with_reducible refine go_add ?_ | with_reducible refine go_sub ?_ | with_reducible refine go_cb ?_ | with_reducible refine go_cons ?_ | with_reducible refine go_nil ?_ | with_reducible refine go_test ?_ | with_reducible refine go_isB ?_
  | with_reducible refine go_if ?_ | with_reducible refine go_lt ?_ | with_reducible refine go_le ?_ | with_reducible refine go_gt ?_ | with_reducible refine go_ge ?_ | with_reducible refine go_eqI ?_ | with_reducible refine go_neI ?_
  | with_reducible refine go_eq1 ?_ | with_reducible refine go_un ?_ | with_reducible refine go_neg ?_ | with_reducible refine go_tand ?_ | with_reducible refine go_tor ?_ | with_reducible refine go_tnot ?_ | with_reducible refine ifB_t ?_ | with_reducible refine ifB_f ?_ | with_reducible refine ifB_nf ?_ | with_reducible refine ifB_nt ?_
  | with_reducible refine go_andV ?_ | with_reducible refine go_orV ?_ | with_reducible refine go_notV ?_ | with_reducible refine go_chain ?_ | with_reducible refine go_tB ?_ | with_reducible refine go_nilt ?_
  | with_reducible refine go_ret ?_ | with_reducible refine go_retN ?_ | with_reducible refine go_next ?_ | with_reducible refine go_drop ?_ | with_reducible refine go_brk ?_ | with_reducible refine go_ct ?_
  | ((with_reducible refine go_aug (n := ?nn) ?ha ?_); (case ha => rfl)) | with_reducible refine go_augi ?_ | with_reducible refine go_lst ?_ | with_reducible refine go_tup ?_ | with_reducible refine go_pick ?_ | with_reducible refine go_picked ?_
  | with_reducible refine go_sl ?_ | with_reducible refine go_nopart ?_ | with_reducible refine go_part ?_ | with_reducible refine go_parti ?_ | with_reducible refine go_isN ?_ | with_reducible refine go_notN ?_ | with_reducible refine go_inS ?_ | with_reducible refine go_notInS ?_
  | with_reducible refine go_max2 ?_ | with_reducible refine go_min2 ?_ | with_reducible refine go_intB ?_ | with_reducible refine go_abs ?_ | with_reducible refine go_cl ?_ | with_reducible refine go_mt ?_ | with_reducible refine go_fld ?_
  | with_reducible refine go_bm ?_ | with_reducible refine go_bm0 ?_ | with_reducible refine ty_str ?_ | ((with_reducible refine ty_lst (xs := ?xx) ?ht ?_); (case ht => assumption))
  | with_reducible refine go_for ?_ | with_reducible refine go_iStr ?_ | with_reducible refine go_strK ?_ | with_reducible refine go_iList ?_ | with_reducible refine go_iEnS ?_ | with_reducible refine go_enSK ?_ | with_reducible refine go_iEnL ?_
  | with_reducible refine go_iR1 ?_ | with_reducible refine go_iR2 ?_ | with_reducible refine go_iR3 ?_ | with_reducible refine go_lc ?_
  | ((with_reducible refine go_div ?hc ?_); (case hc => decide)) | ((with_reducible refine go_mod ?hc ?_); (case hc => decide)) | ((with_reducible refine go_shr ?hc ?_); (case hc => decide)) | with_reducible refine go_and ?_ | with_reducible refine go_or ?_
  | ((with_reducible refine go_lenS ?hz ?_); (case hz => assumption)) | ((with_reducible refine go_lenL (xs := ?xx) ?hz ?_); (case hz => assumption)) | with_reducible refine go_sfld ?_ | with_reducible refine go_mk ?_ | with_reducible refine go_isiII ?_ | with_reducible refine go_isiIB ?_ | with_reducible refine go_isiSS ?_ | with_reducible refine go_gcons ?_ | with_reducible refine go_gnil ?_ | with_reducible refine go_and ?_ | with_reducible refine go_intS ?_ | with_reducible refine go_slT ?_ | with_reducible refine go_iTup ?_ | ((with_reducible refine go_mul ?hc ?_); (case hc => exact .inl ⟨by decide, by decide⟩)))
local macro_rules | `(tactic| walk_at "rd") => `(tactic| repeat walk_at "st")
local macro_rules | `(tactic| walk_at "go") => `(tactic| dsimp only [cxOf, Cx.nox, Cx.wish, L2.start, List.map, List.length_cons, List.length_nil, List.replicate, Nat.reduceAdd, Nat.reduceSub, List.cons_append, List.nil_append])
local macro_rules | `(tactic| walk_at "sz") => `(tactic| (refine Nat.le_trans (m := 100000) ?_ (by decide); first | (simp only [List.length_cons, List.length_nil, List.length_append, List.length_map]; omega) | omega))
/-- two lists of slots are the same -/
local macro_rules | `(tactic| walk_at "se") => `(tactic| ((try dsimp only [List.set]); (repeat' (first | rfl | refine congr (congrArg List.cons ?_) ?_ | refine congrArg (fun z => some (V.int z)) ?_)); (try omega)))
theorem flatF {α : Type} {as : List α} {f : α → V} : (as.filter fun _ => true).map f = as.map f := by rw [List.filter_eq_self.mpr (fun _ _ => rfl)]
def sp__law_large (_ : PySem.W.Frag) : Sp := mkSp (α := Addr × List Int × Nat × Bool) (fun a => [.ref a.1, .int (a.2.2.1 : Nat), .bl a.2.2.2]) (fun a H => H a.1 = some (LI a.2.1) ∧ (∃ r, Wood a.2.1 r) ∧ a.2.1.length ≤ 100 ∧ a.2.2.1 ≤ 100)
  (fun a H v H' => ∃ (es : List Int) (r : List Bool), es.length = a.2.2.1 * a.2.1.length ∧ Wood es r ∧ NewO (LI es) H v H')
theorem pickI {b : Bool} {x y : Int} : (if b then V.int y else V.int x) = V.int (if b then y else x) := by cases b <;> rfl
theorem pickD {p : Prop} [Decidable p] {x y : Int} : (if decide p = true then y else x) = if p then y else x := by
  by_cases h : p
  · rw [if_pos (decide_eq_true h), if_pos h]
  · rw [if_neg (by simpa using h), if_neg h]
theorem go_pickG {b : Bool} {x y : V} {i : Nat} {σ : St} {H : Hp} {QG : St → Hp → Prop} (q : gName i (if b = true then y else x) σ H QG) : ∃ k : Bool, V.int (if b = true then 1 else 0) = V.int (if k = true then 1 else 0) ∧ gName i (if k = true then y else x) σ H QG := ⟨b, rfl, q⟩
theorem sc__law_large : FnScope ["_law_elders", "_law_times", "_law_nested", "_law_found", "_law_k", "_law_base", "_law_top", "_law_elder"] ["_law_elders", "_law_times", "_law_nested"] (defScope s__law_large) := ⟨rfl, rfl, rfl, by decide +kernel, rfl, by decide +kernel, by decide +kernel⟩
theorem ok__law_large {P : Program} {w : World} {K : PySem.W.Frag} {mg : Str → Option Value} {base : Heap} (T : Top K mg)  : Rdy P w K mg base "_law_large" 1 ["_law_elders", "_law_times", "_law_nested"] (sp__law_large K) := by
  refine rdy T.g__law_large T.f__law_large sc__law_large (fun _ => rfl) (fun _ _ _ _ _ _ us hl => match us, hl with | [_, _, _], _ => rfl) fun cdv A outer s H a Q E hr hp hQ => ⟨_, (pss_cons (ps_set (i := 3) sc__law_large.nd rfl (Or.inl rfl) (pe_lst pa_nil))
      (pss_cons (ps_for PassesOwn.never rfl (pi_range1 rfl T.b_range (pa_cons (pv 1) pa_nil)) (pg_name (i := 4) sc__law_large.nd rfl (Or.inl rfl)) (pss_cons (ps_set (i := 5) sc__law_large.nd rfl (Or.inr rfl) (pe_callB (r := cLenL K) call_len_seq rfl T.b_len (by decide +kernel) (pa_cons (pv 3) pa_nil)))
      (pss_cons (ps_set (i := 6) sc__law_large.nd rfl (Or.inr rfl) (pe_pick (pe_un (r := rNegI) un_neg pe_int) (pe_op (r := rSubI) op_sub (pv 5) pe_int) (pe_callTy (r := cInt) call_int1 rfl T.b_int (by decide +kernel) (pa_cons (pv 2) pa_nil))))
      (pss_one (ps_set (i := 3) sc__law_large.nd rfl (Or.inl rfl) (pe_op op_cat (pv 3) (pe_lc (own := [("_law_elder", 7)]) (g := gName 7) (tt := tYes) rfl sc__law_large.nd (pi_list (pv 0)) (blkOk_by (own := [("_law_elder", 7)]) (N := ["_law_elders", "_law_times", "_law_nested", "_law_found", "_law_k", "_law_base", "_law_top", "_law_elder"]) (sc := defScope s__law_large) (by decide +kernel)) (fun _ _ _ _ _ => pg_name (i := 7) sc__law_large.nd rfl (Or.inl rfl)) (fun _ _ _ _ _ => by exact pts_nil) (fun _ _ _ _ _ => by exact (pe_pick (pe_op (r := rAddI) op_add (pv 7) (pv 5)) (pv 6) (pe_callTy (r := cInt) call_int1 rfl T.b_int (by decide +kernel) (pa_cons (pe_cmpR (r := rLt) op_lt (pv 7) pe_int (nomark _)) pa_nil)))))))))))
      (pss_one (ps_ret (pv 3))))), ?_⟩
  obtain ⟨p, es, times, nested⟩ := a
  obtain ⟨hp, ⟨r, hw⟩, hl, ht⟩ := hp
  simp only at hp hw hl ht
  walk_at "go"
  walk_at "rd"
  refine go_newL (by walk_at "sz") fun f0 H1 n1 s1 h1 => ?_
  walk_at "rd"
  refine go_rng1 (by omega) ?_
  refine loop_rng (fun i σ' H' => Same H H' ∧ ∃ (os : List Int) (ds : List Nat) (f : Addr), H f = none ∧ H' f = some (LI os) ∧ os.length = i * es.length ∧ WoodD os ds ∧ ∃ x4 x5 x6 x7, σ' = [some (.ref p), some (.int (times : Nat)), some (.bl nested), some (.ref f), x4, x5, x6, x7]) ?_ ?_ ?_
  · exact ⟨s1, [], [], f0, n1, h1, by simp, woodD_nil, none, none, none, none, rfl⟩
  · rintro i σ' H' hi ⟨s2, os, ds, f, nf, hf, hol, hW, x4, x5, x6, x7, rfl⟩
    have hoz : os.length ≤ 10000 := by
      rw [hol]
      exact Nat.le_trans (Nat.mul_le_mul (show i ≤ 100 by omega) hl) (by decide)
    rw [Int.zero_add]
    walk_at "rd"
    refine go_pickG ?_
    walk_at "rd"
    refine go_listK (SqL.of (s2 _ _ hp)) ?_
    rw [List.length_map]
    refine lc_F (as := es) (f := V.int) (fun _ => true) (fun x => .int (if x < 0 then (if nested then (os.length : Int) - 1 else -1) else x + os.length)) wk_list (fun H2 s' => SqL.of (s' _ _ (s2 _ _ hp))) (Nat.lt_of_le_of_lt hl (by decide)) (fun _ => rfl) (fun _ _ _ _ => evT_yes) (fun x _ _ H2 s' Q' q' => ?_) (fun L H3 n3 s3 h3 => ?_)
    · walk_at "rd"
      have e : (if decide (x < 0) = true then (if nested = true then V.int ((os.length : Int) - 1) else V.int (-1)) else V.int (x + os.length)) = V.int (if x < 0 then (if nested then (os.length : Int) - 1 else -1) else x + os.length) := by
        rw [pickI, pickI, pickD]
      rw [e]
      exact q' _ (Same.refl _)
    rw [flatF] at h3
    have e3 : (es.map fun x => V.int (if x < 0 then (if nested then (os.length : Int) - 1 else -1) else x + os.length)) = (es.map fun x => if x < 0 then (if nested then (os.length : Int) - 1 else -1) else x + os.length).map V.int := by
      rw [List.map_map]
      rfl
    rw [e3] at h3
    walk_at "rd"
    refine go_cat (s3 _ _ hf) h3 (by rw [List.length_map, List.length_map, List.length_map]; exact Nat.le_trans (m := 20000) (by omega) (by decide)) fun f2 H4 n4 s4 h4 => ?_
    walk_at "rd"
    obtain ⟨ds', hW'⟩ := woodD_more hW hw.2 (k := if nested then (os.length : Int) - 1 else -1) (by cases nested <;> simp)
    refine ⟨(s2.trans s3).trans s4, os ++ es.map fun x => if x < 0 then (if nested then (os.length : Int) - 1 else -1) else x + os.length, ds', f2, (s2.trans s3).free n4, ?_, ?_, hW', _, _, _, _, rfl⟩
    · rw [h4, ← List.map_append]
    · rw [List.length_append, List.length_map, hol, Nat.succ_mul]
  · rintro σ' H' ⟨s2, os, ds, f, nf, hf, hol, hW, x4, x5, x6, x7, rfl⟩
    walk_at "rd"
    exact hQ _ _ ⟨os, rowFrom ds 0, hol, wood_of hW, f, rfl, nf, s2, hf⟩
def sp__law_row (_ : PySem.W.Frag) : Sp := mkSp (α := Addr × List Int × List Bool) (fun a => [.ref a.1]) (fun a H => H a.1 = some (LI a.2.1) ∧ Wood a.2.1 a.2.2 ∧ a.2.1.length ≤ 4000) (fun a H v H' => Same H H' ∧ v = .str (S a.2.2))
theorem sc__law_row : FnScope ["_law_elders", "_law_found", "_law_path", "_law_k"] ["_law_elders"] (defScope s__law_row) := ⟨rfl, rfl, rfl, by decide +kernel, rfl, by decide +kernel, by decide +kernel⟩
theorem ok__law_row {P : Program} {w : World} {K : PySem.W.Frag} {mg : Str → Option Value} {base : Heap} (T : Top K mg)  : Rdy P w K mg base "_law_row" 1 ["_law_elders"] (sp__law_row K) := by
  refine rdy T.g__law_row T.f__law_row sc__law_row (fun _ => rfl) (fun _ _ _ _ _ _ us hl => match us, hl with | [_], _ => rfl) fun cdv A outer s H a Q E hr hp hQ => ⟨_, (pss_cons (ps_set (i := 1) sc__law_row.nd rfl (Or.inl rfl) pe_str)
      (pss_cons (ps_set (i := 2) sc__law_row.nd rfl (Or.inl rfl) (pe_lst pa_nil))
      (pss_cons (ps_for PassesOwn.never rfl (pi_range1 rfl T.b_range (pa_cons (pe_callB (r := cLenL K) call_len_seq rfl T.b_len (by decide +kernel) (pa_cons (pv 0) pa_nil)) pa_nil)) (pg_name (i := 3) sc__law_row.nd rfl (Or.inl rfl)) (pss_cons (ps_while PassesOwn.never (PW.pt (pw_and (pt_cmp (pc_nil (.inr ⟨rfl, rfl⟩) hr.units (pv 2))) (pw_and1 (pt_cmpR (r := rNe) op_ne (pe_ix (r := rIxL K) ix_list (pv 2) (pe_un (r := rNegI) un_neg pe_int) (fun _ _ => rfl)) (pe_ix (r := rIxL K) ix_list (pv 0) (pv 3) (fun _ _ => rfl)) (nomark _))))) (pss_cons (ps_expr (pe_bm0 PySem.F.plainAttrs_list PySem.F.slot_list_pop PySem.F.type_list_pop mt_pop (pv 2)))
      (pss_one (ps_set (i := 1) sc__law_row.nd rfl (Or.inl rfl) (pe_op op_addS (pv 1) pe_str)))))
      (pss_cons (ps_expr (pe_bm PySem.F.plainAttrs_list PySem.F.slot_list_append PySem.F.type_list_append mt_append (pv 2) (pa_cons (pv 3) pa_nil)))
      (pss_one (ps_set (i := 1) sc__law_row.nd rfl (Or.inl rfl) (pe_op op_addS (pv 1) pe_str))))))
      (pss_one (ps_ret (pe_op op_addS (pv 1) (pe_op op_mulS pe_str (pe_callB (r := cLenL K) call_len_seq rfl T.b_len (by decide +kernel) (pa_cons (pv 2) pa_nil))))))))), ?_⟩
  obtain ⟨p, es, r⟩ := a
  obtain ⟨hp, hw, hl⟩ := hp
  simp only at hp hw hl
  obtain ⟨wl1, wl2⟩ := wood_len hw
  walk_at "go"
  walk_at "rd"
  refine go_newL (by walk_at "sz") fun w H1 n1 s1 h1 => ?_
  walk_at "rd"
  refine go_lenL (s1 _ _ hp) ?_
  walk_at "rd"
  rw [List.length_map]
  refine go_rng1 (by omega) ?_
  refine loop_rng (fun i σ' H' => Same H H' ∧ ∃ st acc, H' w = some (LN st) ∧ Stk r i st ∧ acc ++ rowFrom ((dep r 0).drop i) st.length = r ∧ ∃ x, σ' = [some (.ref p), some (.str (S acc)), some (.ref w), x]) ?_ ?_ ?_
  · exact ⟨s1, [], [], h1, Stk.nil r, (row_dep r 0 hw.1).1, none, by rw [S_nil]; rfl⟩
  · rintro i σ' H' hi ⟨s2, st, acc, h2, hst, er, x, rfl⟩
    obtain ⟨pre, a, post, e, hpl⟩ : ∃ pre a post, es = pre ++ a :: post ∧ pre.length = i := ⟨es.take i, es[i], es.drop (i + 1), by rw [← List.drop_eq_getElem_cons hi, List.take_append_drop], by rw [List.length_take]; omega⟩
    have hea : es[i]? = some a := by rw [e, ← hpl]; simp
    obtain ⟨d, hk⟩ := kn_of hw e
    rw [← hpl] at hst er hea ⊢
    obtain ⟨hd, he, hn, hst2⟩ := kn_stk hk hst
    have hsl := stk_len hst
    have hda := row_at hk.at_d
    rw [Int.zero_add]
    walk_at "rd"
    refine go_while2 (fun m σ' H' => d ≤ m ∧ m ≤ st.length ∧ Same H H' ∧ H' w = some (LN (st.take m)) ∧ ∃ acc, acc ++ rowFrom ((dep r 0).drop pre.length) m = r ∧ σ' = [some (.ref p), some (.str (S acc)), some (.ref w), some (.int (pre.length : Nat))])
      (fun σ' H' => Same H H' ∧ H' w = some (LN (st.take d)) ∧ ∃ acc, acc ++ rowFrom ((dep r 0).drop pre.length) d = r ∧ σ' = [some (.ref p), some (.str (S acc)), some (.ref w), some (.int (pre.length : Nat))]) st.length ?_ ?_ ?_
    · exact ⟨hd, Nat.le_refl _, s2, by rw [List.take_length]; exact h2, acc, er, rfl⟩
    · rintro D' hnx _ m σ' H' ⟨a1, a2, s4, h4, acc, er, rfl⟩
      walk_at "rd"
      cases m with
      | zero =>
        refine way_no h4 ?_
        walk_at "rd"
        have e0 : d = 0 := by omega
        refine whK_f (hnx _ _ ⟨s4, by rw [e0]; exact h4, acc, by rw [e0]; exact er, rfl⟩)
      | succ m =>
        have hm : m < st.length := a2
        refine way_yes h4 hm ?_
        walk_at "rd"
        refine go_ixL h4 (way_top hm) ?_
        walk_at "rd"
        refine go_ixL (s4 _ _ hp) (at_i pre.length rfl (map_at hea)) ?_
        walk_at "rd"
        by_cases hmd : d ≤ m
        · have := hn m _ hmd (List.getElem?_eq_getElem hm)
          rw [decide_eq_false (fun z => this z.symm)]
          refine whK_t ?_
          walk_at "rd"
          rw [take_ex hm, LN_snoc] at h4
          refine go_pop h4 ?_
          walk_at "rd"
          have hal : acc.length ≤ r.length := by rw [← er]; simp
          rw [S_zero]
          refine go_addS (Nat.le_trans (m := 8001) (by show _ + 1 ≤ _; omega) (by decide)) ?_
          walk_at "rd"
          refine ⟨m, Nat.lt_succ_self m, hmd, by omega, same_mut s4 n1, by rw [upd_same]; rfl, acc ++ [false], ?_, rfl⟩
          rw [hda] at er ⊢
          rw [row_drop (fun d' q => by have : d = d' := by simpa using q
                                       omega)] at er
          rw [List.append_assoc]
          exact er
        · have e1 : d = m + 1 := by omega
          have e2 : a = (st[m] : Nat) := by
            rcases he with ⟨q, _⟩ | ⟨d', q, s, q1, q2⟩
            · omega
            · have : d' = m := by omega
              subst this
              rw [List.getElem?_eq_getElem hm] at q1
              rw [q2, Option.some.inj q1]
          rw [decide_eq_true e2.symm]
          exact whK_f (hnx _ _ ⟨s4, by rw [e1]; exact h4, acc, by rw [e1]; exact er, rfl⟩)
    · rintro σ' H3 ⟨s4, h4, acc, er, rfl⟩
      have hal : acc.length ≤ r.length := by rw [← er]; simp
      walk_at "rd"
      refine go_append h4 (by rw [List.length_map, List.length_take]; exact Nat.lt_of_le_of_lt (m := 4000) (by omega) (by decide)) ?_
      walk_at "rd"
      rw [S_one]
      refine go_addS (Nat.le_trans (m := 8001) (by show _ + 1 ≤ _; omega) (by decide)) ?_
      walk_at "rd"
      refine ⟨same_mut s4 n1, st.take d ++ [pre.length], acc ++ [true], by rw [upd_same]; exact congrArg some (LN_snoc _ _).symm, hst2, ?_, _, rfl⟩
      rw [hda] at er
      have e5 : rowFrom (d :: (dep r 0).drop (pre.length + 1)) d = true :: rowFrom ((dep r 0).drop (pre.length + 1)) (d + 1) := by
        show List.replicate (d - d) false ++ _ = _
        rw [Nat.sub_self]
        rfl
      rw [e5] at er
      have e6 : (st.take d ++ [pre.length]).length = d + 1 := by
        rw [List.length_append, List.length_take]
        show _ + 1 = _
        omega
      rw [e6, List.append_assoc]
      exact er
  · rintro σ' H' ⟨s2, st, acc, h2, hst, er, x, rfl⟩
    have hsl := stk_len hst
    have hal : acc.length ≤ r.length := by rw [← er]; simp
    walk_at "rd"
    have e7 : (dep r 0).drop es.length = [] := List.drop_eq_nil_of_le (by rw [hw.2.1]; exact Nat.le_refl _)
    rw [e7] at er
    rw [List.length_map]
    refine go_mul0 (by omega) ?_
    refine go_addS (by rw [List.length_replicate]; exact Nat.le_trans (m := 12000) (by omega) (by decide)) ?_
    refine hQ _ _ ⟨s2, ?_⟩
    show V.str (S (acc ++ List.replicate st.length false)) = V.str (S r)
    rw [← er]
    rfl
theorem lend_step {es : List Int} {k y : Int} {e : Nat} (h : es[e]? = some y) (hy : k ≤ y) : lend es k e = lend es k (e + 1) := by
  obtain ⟨hl, e1⟩ := List.getElem?_eq_some_iff.mp h
  unfold lend
  rw [List.drop_eq_getElem_cons hl, e1, List.takeWhile_cons, if_pos (decide_eq_true hy), List.length_cons]
  omega
theorem lend_stop {es : List Int} {k : Int} {e : Nat} (h : ∀ y, es[e]? = some y → y < k) : lend es k e = e := by
  unfold lend
  by_cases hl : e < es.length
  · have := h _ (List.getElem?_eq_getElem hl)
    rw [List.drop_eq_getElem_cons hl, List.takeWhile_cons, if_neg (by simpa using this)]
    rfl
  · rw [List.drop_eq_nil_of_le (by omega)]
    rfl
theorem lend_le (es : List Int) (k : Int) (e : Nat) (h : e ≤ es.length) : lend es k e ≤ es.length := by
  unfold lend
  have := (List.takeWhile_sublist (l := es.drop e) fun x => decide (k ≤ x)).length_le
  rw [List.length_drop] at this
  omega
def sp__law_end (_ : PySem.W.Frag) : Sp := mkSp (α := Addr × List Int × Nat) (fun a => [.ref a.1, .int (a.2.2 : Nat)]) (fun a H => H a.1 = some (LI a.2.1)) (fun a H v H' => H' = H ∧ v = .int (lend a.2.1 (a.2.2 : Nat) (a.2.2 + 1) : Nat))
theorem sc__law_end : FnScope ["_law_elders", "_law_k", "_law_end_here"] ["_law_elders", "_law_k"] (defScope s__law_end) := ⟨rfl, rfl, rfl, by decide +kernel, rfl, by decide +kernel, by decide +kernel⟩
theorem ok__law_end {P : Program} {w : World} {K : PySem.W.Frag} {mg : Str → Option Value} {base : Heap} (T : Top K mg)  : Rdy P w K mg base "_law_end" 1 ["_law_elders", "_law_k"] (sp__law_end K) := by
  refine rdy T.g__law_end T.f__law_end sc__law_end (fun _ => rfl) (fun _ _ _ _ _ _ us hl => match us, hl with | [_, _], _ => rfl) fun cdv A outer s H a Q E hr hp hQ => ⟨_, (pss_cons (ps_set (i := 2) sc__law_end.nd rfl (Or.inl rfl) (pe_op (r := rAddI) op_add (pv 1) pe_int))
      (pss_cons (ps_while PassesOwn.never (PW.pt (pw_and (pt_cmpR (r := rLt) op_lt (pv 2) (pe_callB (r := cLenL K) call_len_seq rfl T.b_len (by decide +kernel) (pa_cons (pv 0) pa_nil)) (nomark _)) (pw_and1 (pt_cmpR (r := rGe) op_ge (pe_ix (r := rIxL K) ix_list (pv 0) (pv 2) (fun _ _ => rfl)) (pv 1) (nomark _))))) (pss_one (ps_set (i := 2) sc__law_end.nd rfl (Or.inl rfl) (pe_op (r := rAddI) op_add (pv 2) pe_int))))
      (pss_one (ps_ret (pv 2))))), ?_⟩
  obtain ⟨p, es, k⟩ := a
  replace hp : H p = some (LI es) := hp
  walk_at "go"
  walk_at "rd"
  refine go_while2 (fun m σ' H' => H' = H ∧ ∃ e, m = es.length - e ∧ lend es k e = lend es k (k + 1) ∧ σ' = [some (.ref p), some (.int (k : Nat)), some (.int (e : Nat))]) (fun σ' H' => H' = H ∧ σ' = [some (.ref p), some (.int (k : Nat)), some (.int (lend es k (k + 1) : Nat))]) (es.length - (k + 1)) ?_ ?_ ?_
  · exact ⟨rfl, k + 1, rfl, rfl, rfl⟩
  · rintro D' hnx _ m σ' H' ⟨rfl, e, rfl, hle, rfl⟩
    walk_at "rd"
    rw [List.length_map]
    refine ifB_dec (fun q => ?_) (fun q => ?_)
    · have hel : e < es.length := by omega
      walk_at "rd"
      refine go_ixL hp (at_i e rfl (map_at (List.getElem?_eq_getElem hel))) ?_
      walk_at "rd"
      refine whK_dec (fun q2 => ?_) (fun q2 => ?_)
      · walk_at "rd"
        refine ⟨es.length - (e + 1), by omega, rfl, e + 1, rfl, ?_, rfl⟩
        rw [← lend_step (List.getElem?_eq_getElem hel) q2]
        exact hle
      · refine hnx _ _ ⟨rfl, ?_⟩
        rw [← hle, lend_stop]
        intro y hy
        rw [List.getElem?_eq_getElem hel] at hy
        have := Option.some.inj hy
        omega
    · refine whK_f (hnx _ _ ⟨rfl, ?_⟩)
      rw [← hle, lend_stop]
      intro y hy
      have := (List.getElem?_eq_some_iff.mp hy).1
      omega
  · rintro σ' H' ⟨rfl, rfl⟩
    walk_at "rd"
    exact hQ _ _ ⟨rfl, rfl⟩
def sp__law_without (_ : PySem.W.Frag) : Sp := mkSp (α := Addr × List Int × Nat) (fun a => [.ref a.1, .int (a.2.2 : Nat)]) (fun a H => H a.1 = some (LI a.2.1) ∧ a.2.1.length ≤ 4000) (fun a H v H' => NewO (LI (wout a.2.1 a.2.2 (lend a.2.1 (a.2.2 : Nat) (a.2.2 + 1)))) H v H')
theorem sc__law_without : FnScope ["_law_elders", "_law_k", "_law_end_here", "_law_elder"] ["_law_elders", "_law_k"] (defScope s__law_without) := ⟨rfl, rfl, rfl, by decide +kernel, rfl, by decide +kernel, by decide +kernel⟩
theorem ok__law_without {P : Program} {w : World} {K : PySem.W.Frag} {mg : Str → Option Value} {base : Heap} (T : Top K mg) (R__law_end : Rdy P w K mg base "_law_end" 1 ["_law_elders", "_law_k"] (sp__law_end K)) : Rdy P w K mg base "_law_without" 2 ["_law_elders", "_law_k"] (sp__law_without K) := by
  refine rdy T.g__law_without T.f__law_without sc__law_without (fun _ => rfl) (fun _ _ _ _ _ _ us hl => match us, hl with | [_, _], _ => rfl) fun cdv A outer s H a Q E hr hp hQ => ⟨_, (pss_cons (ps_set (i := 2) sc__law_without.nd rfl (Or.inr rfl) (pe_f R__law_end (hr.mono (by decide)) (pa_cons (pv 0) (pa_cons (pv 1) pa_nil))))
      (pss_one (ps_ret (pe_op op_cat (pe_slice sl_list (pv 0) po_none (po_some (pv 1))) (pe_lc (own := [("_law_elder", 3)]) (g := gName 3) (tt := tYes) rfl sc__law_without.nd (pi_list (pe_slice sl_list (pv 0) (po_some (pv 2)) po_none)) (blkOk_by (own := [("_law_elder", 3)]) (N := ["_law_elders", "_law_k", "_law_end_here", "_law_elder"]) (sc := defScope s__law_without) (by decide +kernel)) (fun _ _ _ _ _ => pg_name (i := 3) sc__law_without.nd rfl (Or.inl rfl)) (fun _ _ _ _ _ => by exact pts_nil) (fun _ _ _ _ _ => by exact (pe_pick (pv 3) (pe_op (r := rAddI) op_add (pe_op (r := rSubI) op_sub (pv 3) (pv 2)) (pv 1)) (pe_callTy (r := cInt) call_int1 rfl T.b_int (by decide +kernel) (pa_cons (pe_cmpR (r := rGe) op_ge (pv 3) (pv 1) (nomark _)) pa_nil))))))))), ?_⟩
  obtain ⟨p, es, k⟩ := a
  obtain ⟨hp, hl⟩ := hp
  simp only at hp hl
  walk_at "go"
  walk_at "rd"
  refine ⟨(p, es, k), rfl, hp, ?_⟩
  rintro v H' ⟨eH, rfl⟩
  subst eH
  simp only
  generalize lend es (k : Nat) (k + 1) = e at hQ ⊢
  walk_at "rd"
  refine go_slL (SqL.of hp) fun p1 H1 n1 s1 h1 => ?_
  rw [cutV_to, ← List.map_take] at h1
  walk_at "rd"
  refine go_slL (SqL.of (s1 _ _ hp)) fun p2 H2 n2 s2 h2 => ?_
  rw [cutV_from, ← List.map_drop] at h2
  refine go_listK (SqL.of h2) ?_
  refine lc_F (as := es.drop e) (f := V.int) (fun _ => true) (fun x => .int (if (k : Int) ≤ x then x - e + k else x)) wk_list (fun H2 s' => SqL.of (s' _ _ h2)) (Nat.lt_of_le_of_lt (m := 4000) (by rw [List.length_drop]; omega) (by decide)) (fun _ => rfl) (fun _ _ _ _ => evT_yes) (fun x _ _ H2 s' Q' q' => ?_) (fun L H3 n3 s3 h3 => ?_)
  · walk_at "rd"
    rw [pickI, pickD]
    exact q' _ (Same.refl _)
  rw [flatF] at h3
  have e3 : ((es.drop e).map fun x => V.int (if (k : Int) ≤ x then x - e + k else x)) = ((es.drop e).map fun x => if (k : Int) ≤ x then x - e + k else x).map V.int := by
    rw [List.map_map]
    rfl
  rw [e3] at h3
  walk_at "rd"
  refine go_cat (s3 _ _ (s2 _ _ h1)) h3 (by rw [List.length_map, List.length_map, List.length_map, List.length_take, List.length_drop]; exact Nat.le_trans (m := 8000) (by omega) (by decide)) fun f2 H4 n4 s4 h4 => ?_
  refine hQ _ _ ⟨f2, rfl, ((s1.trans s2).trans s3).free n4, ((s1.trans s2).trans s3).trans s4, ?_⟩
  rw [h4, ← List.map_append]
  rfl

end
section
/-- one step of a reading; as many as go -/
local macro_rules | `(tactic| walk_at "st") => `(tactic| first
  | with_reducible refine go_seq ?_ | with_reducible refine go_asg ?_ | with_reducible refine go_gname ?_ | ((with_reducible refine go_var (v := ?vv) ?hv ?_); (case hv => rfl)) | with_reducible refine go_c ?_ | with_reducible refine go_op ?_
  | with_reducible refine go_add ?_ | with_reducible refine go_sub ?_ | with_reducible refine go_cb ?_ | with_reducible refine go_cons ?_ | with_reducible refine go_nil ?_ | with_reducible refine go_test ?_ | with_reducible refine go_isB ?_
  | with_reducible refine go_if ?_ | with_reducible refine go_lt ?_ | with_reducible refine go_le ?_ | with_reducible refine go_gt ?_ | with_reducible refine go_ge ?_ | with_reducible refine go_eqI ?_ | with_reducible refine go_neI ?_
  | with_reducible refine go_eq1 ?_ | with_reducible refine go_un ?_ | with_reducible refine go_neg ?_ | with_reducible refine go_tand ?_ | with_reducible refine go_tor ?_ | with_reducible refine go_tnot ?_ | with_reducible refine ifB_t ?_ | with_reducible refine ifB_f ?_ | with_reducible refine ifB_nf ?_ | with_reducible refine ifB_nt ?_
  | with_reducible refine go_andV ?_ | with_reducible refine go_orV ?_ | with_reducible refine go_notV ?_ | with_reducible refine go_chain ?_ | with_reducible refine go_tB ?_ | with_reducible refine go_nilt ?_
  | with_reducible refine go_ret ?_ | with_reducible refine go_retN ?_ | with_reducible refine go_next ?_ | with_reducible refine go_drop ?_ | with_reducible refine go_brk ?_ | with_reducible refine go_ct ?_
  | ((with_reducible refine go_aug (n := ?nn) ?ha ?_); (case ha => rfl)) | with_reducible refine go_augi ?_ | with_reducible refine go_lst ?_ | with_reducible refine go_tup ?_ | with_reducible refine go_pick ?_ | with_reducible refine go_picked ?_
  | with_reducible refine go_sl ?_ | with_reducible refine go_nopart ?_ | with_reducible refine go_part ?_ | with_reducible refine go_parti ?_ | with_reducible refine go_isN ?_ | with_reducible refine go_notN ?_ | with_reducible refine go_inS ?_ | with_reducible refine go_notInS ?_
  | with_reducible refine go_max2 ?_ | with_reducible refine go_min2 ?_ | with_reducible refine go_intB ?_ | with_reducible refine go_abs ?_ | with_reducible refine go_cl ?_ | with_reducible refine go_mt ?_ | with_reducible refine go_fld ?_
  | with_reducible refine go_bm ?_ | with_reducible refine go_bm0 ?_ | with_reducible refine ty_str ?_ | ((with_reducible refine ty_lst (xs := ?xx) ?ht ?_); (case ht => assumption))
  | with_reducible refine go_for ?_ | with_reducible refine go_iStr ?_ | with_reducible refine go_strK ?_ | with_reducible refine go_iList ?_ | with_reducible refine go_iEnS ?_ | with_reducible refine go_enSK ?_ | with_reducible refine go_iEnL ?_
  | with_reducible refine go_iR1 ?_ | with_reducible refine go_iR2 ?_ | with_reducible refine go_iR3 ?_ | with_reducible refine go_lc ?_
  | ((with_reducible refine go_div ?hc ?_); (case hc => decide)) | ((with_reducible refine go_mod ?hc ?_); (case hc => decide)) | ((with_reducible refine go_shr ?hc ?_); (case hc => decide)) | with_reducible refine go_and ?_ | with_reducible refine go_or ?_
  | ((with_reducible refine go_lenS ?hz ?_); (case hz => assumption)) | ((with_reducible refine go_lenL (xs := ?xx) ?hz ?_); (case hz => assumption)) | with_reducible refine go_sfld ?_ | with_reducible refine go_mk ?_ | with_reducible refine go_isiII ?_ | with_reducible refine go_isiIB ?_ | with_reducible refine go_isiSS ?_ | with_reducible refine go_gcons ?_ | with_reducible refine go_gnil ?_ | with_reducible refine go_and ?_ | with_reducible refine go_intS ?_ | with_reducible refine go_slT ?_ | with_reducible refine go_iTup ?_ | ((with_reducible refine go_mul ?hc ?_); (case hc => exact .inl ⟨by decide, by decide⟩)))
local macro_rules | `(tactic| walk_at "rd") => `(tactic| repeat walk_at "st")
local macro_rules | `(tactic| walk_at "go") => `(tactic| dsimp only [cxOf, Cx.nox, Cx.wish, L2.start, List.map, List.length_cons, List.length_nil, List.replicate, Nat.reduceAdd, Nat.reduceSub, List.cons_append, List.nil_append])
local macro_rules | `(tactic| walk_at "sz") => `(tactic| (refine Nat.le_trans (m := 100000) ?_ (by decide); first | (simp only [List.length_cons, List.length_nil, List.length_append, List.length_map]; omega) | omega))
/-- two lists of slots are the same -/
local macro_rules | `(tactic| walk_at "se") => `(tactic| ((try dsimp only [List.set]); (repeat' (first | rfl | refine congr (congrArg List.cons ?_) ?_ | refine congrArg (fun z => some (V.int z)) ?_)); (try omega)))
def spotN (es : List Int) (k : Int) (pl : Nat) : Nat := match (lsome es k)[pl]? with | some i => i | none => if k < 0 then es.length else lend es k (k.toNat + 1)
/-- [other for other in range(len(elders)) if elders[other] == k] -/
theorem lsome_len (es : List Int) (k : Int) : (lsome es k).length ≤ es.length := by
  unfold lsome
  have := List.length_filter_le (fun i => decide (es[i]? = some k)) (List.range es.length)
  rw [List.length_range] at this
  exact this
theorem lsome_map (es : List Int) (k : Int) : ((List.range es.length).filter fun i => decide (es[i]? = some k)).map (fun (i : Nat) => V.int (i : Int)) = (lsome es k).map fun (n : Nat) => V.int (n : Int) := rfl
theorem some_dec {x k : Int} : decide (some x = some k) = decide (x = k) := by
  by_cases h : x = k
  · rw [decide_eq_true h, decide_eq_true (congrArg some h)]
  · rw [decide_eq_false h, decide_eq_false fun e => h (Option.some.inj e)]
def sp__law_spot (_ : PySem.W.Frag) : Sp := mkSp (α := Addr × List Int × Int × Nat) (fun a => [.ref a.1, .int a.2.2.1, .int (a.2.2.2 : Nat)]) (fun a H => H a.1 = some (LI a.2.1) ∧ a.2.1.length ≤ 4000)
  (fun a H v H' => Same H H' ∧ v = .int (spotN a.2.1 a.2.2.1 a.2.2.2 : Nat))
theorem sc__law_spot : FnScope ["_law_elders", "_law_k", "_law_place_here", "_law_some", "_law_other"] ["_law_elders", "_law_k", "_law_place_here"] (defScope s__law_spot) := ⟨rfl, rfl, rfl, by decide +kernel, rfl, by decide +kernel, by decide +kernel⟩
theorem ok__law_spot {P : Program} {w : World} {K : PySem.W.Frag} {mg : Str → Option Value} {base : Heap} (T : Top K mg) (R__law_end : Rdy P w K mg base "_law_end" 1 ["_law_elders", "_law_k"] (sp__law_end K)) : Rdy P w K mg base "_law_spot" 2 ["_law_elders", "_law_k", "_law_place_here"] (sp__law_spot K) := by
  refine rdy T.g__law_spot T.f__law_spot sc__law_spot (fun _ => rfl) (fun _ _ _ _ _ _ us hl => match us, hl with | [_, _, _], _ => rfl) fun cdv A outer s H a Q E hr hp hQ => ⟨_, (pss_cons (ps_setLc (i := 3) (own := [("_law_other", 4)]) (g := gName 4) rfl sc__law_spot.nd rfl rfl (sw_true rfl rfl rfl (by decide +kernel)) (pi_range1 rfl T.b_range (pa_cons (pe_callB (r := cLenL K) call_len_seq rfl T.b_len (by decide +kernel) (pa_cons (pv 0) pa_nil)) pa_nil)) (blkOk_by (own := [("_law_other", 4)]) (N := ["_law_elders", "_law_k", "_law_place_here", "_law_some", "_law_other"]) (sc := defScope s__law_spot) (by decide +kernel)) (fun _ _ _ _ _ => pg_name (i := 4) sc__law_spot.nd rfl (Or.inl rfl)) (fun _ _ _ _ _ => by exact (pts_one (pt_cmpR (r := rEq) op_eq (pe_ix (r := rIxL K) ix_list (pv 0) (pv 4) (fun _ _ => rfl)) (pv 1) (nomark _)))) (fun _ _ _ _ _ => by exact (pv 4)))
      (pss_cons (ps_if (pt_cmpR (r := rLt) op_lt (pv 2) (pe_callB (r := cLenL K) call_len_seq rfl T.b_len (by decide +kernel) (pa_cons (pv 3) pa_nil)) (nomark _)) (pss_one (ps_ret (pe_ix (r := rIxL K) ix_list (pv 3) (pv 2) (fun _ _ => rfl)))) pss_nil)
      (pss_cons (ps_if (pt_cmpR (r := rLt) op_lt (pv 1) pe_int (nomark _)) (pss_one (ps_ret (pe_callB (r := cLenL K) call_len_seq rfl T.b_len (by decide +kernel) (pa_cons (pv 0) pa_nil)))) pss_nil)
      (pss_one (ps_ret (pe_f R__law_end (hr.mono (by decide)) (pa_cons (pv 0) (pa_cons (pv 1) pa_nil)))))))), ?_⟩
  obtain ⟨p, es, k, pl⟩ := a
  obtain ⟨hp, hl⟩ := hp
  simp only at hp hl
  walk_at "go"
  walk_at "rd"
  rw [List.length_map]
  refine go_rng1 (by omega) ?_
  refine lc_F (as := List.range es.length) (f := fun (i : Nat) => .int (0 + (i : Int))) (fun i => decide (es[i]? = some k)) (fun (i : Nat) => .int (i : Int)) wk_rng (fun _ _ => trivial) (by rw [List.length_range]; exact Nat.lt_of_le_of_lt hl (by decide)) (fun _ => rfl) (fun i hi H' s' Q' q' => ?_) (fun i hi _ H' s' Q' q' => ?_) (fun L H1 n1 s1 h1 => ?_)
  · have hil := List.mem_range.mp hi
    rw [Int.zero_add]
    rw [List.getElem?_eq_getElem hil, some_dec] at q'
    walk_at "rd"
    refine go_ixL (s' _ _ hp) (at_i i rfl (map_at (List.getElem?_eq_getElem hil))) ?_
    walk_at "rd"
    exact q' _ (Same.refl _)
  · rw [Int.zero_add]
    walk_at "rd"
    exact q' _ (Same.refl _)
  rw [lsome_map] at h1
  walk_at "rd"
  rw [List.length_map]
  refine ifB_dec (fun q => ?_) (fun q => ?_)
  · have hlt : pl < (lsome es k).length := by omega
    walk_at "rd"
    refine go_ixL h1 (at_i pl rfl (map_at (List.getElem?_eq_getElem hlt))) ?_
    refine hQ _ _ ⟨s1, ?_⟩
    show _ = V.int (spotN es k pl : Nat)
    unfold spotN
    rw [List.getElem?_eq_getElem hlt]
  · have hno : (lsome es k)[pl]? = none := List.getElem?_eq_none_iff.mpr (by omega)
    walk_at "rd"
    refine ifB_dec (fun q2 => ?_) (fun q2 => ?_)
    · walk_at "rd"
      refine go_lenL (s1 _ _ hp) ?_
      refine hQ _ _ ⟨s1, ?_⟩
      show _ = V.int (spotN es k pl : Nat)
      unfold spotN
      rw [hno, List.length_map]
      simp only
      rw [if_pos q2]
    · walk_at "rd"
      have hk : k = (k.toNat : Nat) := by omega
      refine ⟨(p, es, k.toNat), by show [V.ref p, V.int k] = [V.ref p, V.int (k.toNat : Nat)]; rw [← hk], s1 _ _ hp, ?_⟩
      rintro v H2 ⟨eH, rfl⟩
      subst eH
      refine hQ _ _ ⟨s1, ?_⟩
      show _ = V.int (spotN es k pl : Nat)
      unfold spotN
      rw [hno]
      simp only
      rw [if_neg q2, ← hk]
def sp__law_with (_ : PySem.W.Frag) : Sp := mkSp (α := Addr × List Int × Int × Nat × Addr × List Int) (fun a => [.ref a.1, .int a.2.2.1, .int (a.2.2.2.1 : Nat), .ref a.2.2.2.2.1])
  (fun a H => H a.1 = some (LI a.2.1) ∧ a.2.1.length ≤ 4000 ∧ H a.2.2.2.2.1 = some (LI a.2.2.2.2.2) ∧ a.2.2.2.2.2.length ≤ 4000)
  (fun a H v H' => NewO (LI (wins a.2.1 (spotN a.2.1 a.2.2.1 a.2.2.2.1) a.2.2.1 a.2.2.2.2.2)) H v H')
theorem sc__law_with : FnScope ["_law_elders", "_law_k", "_law_place_here", "_law_wood_here", "_law_at", "_law_amid", "_law_elder"] ["_law_elders", "_law_k", "_law_place_here", "_law_wood_here"] (defScope s__law_with) := ⟨rfl, rfl, rfl, by decide +kernel, rfl, by decide +kernel, by decide +kernel⟩
theorem ok__law_with {P : Program} {w : World} {K : PySem.W.Frag} {mg : Str → Option Value} {base : Heap} (T : Top K mg) (R__law_spot : Rdy P w K mg base "_law_spot" 2 ["_law_elders", "_law_k", "_law_place_here"] (sp__law_spot K)) : Rdy P w K mg base "_law_with" 3 ["_law_elders", "_law_k", "_law_place_here", "_law_wood_here"] (sp__law_with K) := by
  refine rdy T.g__law_with T.f__law_with sc__law_with (fun _ => rfl) (fun _ _ _ _ _ _ us hl => match us, hl with | [_, _, _, _], _ => rfl) fun cdv A outer s H a Q E hr hp hQ => ⟨_, (pss_cons (ps_set (i := 4) sc__law_with.nd rfl (Or.inr rfl) (pe_f R__law_spot (hr.mono (by decide)) (pa_cons (pv 0) (pa_cons (pv 1) (pa_cons (pv 2) pa_nil)))))
      (pss_cons (ps_setLc (i := 5) (own := [("_law_elder", 6)]) (g := gName 6) (tt := tYes) rfl sc__law_with.nd rfl rfl (sw_true rfl rfl rfl (by decide +kernel)) (pi_list (pv 3)) (blkOk_by (own := [("_law_elder", 6)]) (N := ["_law_elders", "_law_k", "_law_place_here", "_law_wood_here", "_law_at", "_law_amid", "_law_elder"]) (sc := defScope s__law_with) (by decide +kernel)) (fun _ _ _ _ _ => pg_name (i := 6) sc__law_with.nd rfl (Or.inl rfl)) (fun _ _ _ _ _ => by exact pts_nil) (fun _ _ _ _ _ => by exact (pe_pick (pe_op (r := rAddI) op_add (pv 6) (pv 4)) (pv 1) (pe_callTy (r := cInt) call_int1 rfl T.b_int (by decide +kernel) (pa_cons (pe_cmpR (r := rLt) op_lt (pv 6) pe_int (nomark _)) pa_nil)))))
      (pss_one (ps_ret (pe_op op_cat (pe_op op_cat (pe_slice sl_list (pv 0) po_none (po_some (pv 4))) (pv 5)) (pe_lc (own := [("_law_elder", 6)]) (g := gName 6) (tt := tYes) rfl sc__law_with.nd (pi_list (pe_slice sl_list (pv 0) (po_some (pv 4)) po_none)) (blkOk_by (own := [("_law_elder", 6)]) (N := ["_law_elders", "_law_k", "_law_place_here", "_law_wood_here", "_law_at", "_law_amid", "_law_elder"]) (sc := defScope s__law_with) (by decide +kernel)) (fun _ _ _ _ _ => pg_name (i := 6) sc__law_with.nd rfl (Or.inl rfl)) (fun _ _ _ _ _ => by exact pts_nil) (fun _ _ _ _ _ => by exact (pe_pick (pv 6) (pe_op (r := rAddI) op_add (pv 6) (pe_callB (r := cLenL K) call_len_seq rfl T.b_len (by decide +kernel) (pa_cons (pv 3) pa_nil))) (pe_callTy (r := cInt) call_int1 rfl T.b_int (by decide +kernel) (pa_cons (pe_cmpR (r := rGe) op_ge (pv 6) (pv 4) (nomark _)) pa_nil)))))))))), ?_⟩
  obtain ⟨p, es, k, pl, q, os⟩ := a
  obtain ⟨hp, hl, hq, hol⟩ := hp
  simp only at hp hl hq hol
  walk_at "go"
  walk_at "rd"
  refine ⟨(p, es, k, pl), rfl, ⟨hp, hl⟩, ?_⟩
  rintro v H1 ⟨s1, rfl⟩
  simp only
  generalize spotN es k pl = a at hQ ⊢
  walk_at "rd"
  refine go_listK (SqL.of (s1 _ _ hq)) ?_
  refine lc_F (as := os) (f := V.int) (fun _ => true) (fun x => .int (if x < 0 then k else x + a)) wk_list (fun H2 s' => SqL.of (s' _ _ (s1 _ _ hq))) (Nat.lt_of_le_of_lt hol (by decide)) (fun _ => rfl) (fun _ _ _ _ => evT_yes) (fun x _ _ H2 s' Q' q' => ?_) (fun L H3 n3 s3 h3 => ?_)
  · walk_at "rd"
    rw [pickI, pickD]
    exact q' _ (Same.refl _)
  rw [flatF] at h3
  have e3 : (os.map fun x => V.int (if x < 0 then k else x + a)) = (os.map fun x => if x < 0 then k else x + a).map V.int := by
    rw [List.map_map]
    rfl
  rw [e3] at h3
  have s13 := s1.trans s3
  walk_at "rd"
  refine go_slL (SqL.of (s13 _ _ hp)) fun p4 H4 n4 s4 h4 => ?_
  rw [cutV_to, ← List.map_take] at h4
  walk_at "rd"
  refine go_cat h4 (s4 _ _ h3) (by rw [List.length_map, List.length_map, List.length_map, List.length_take]; exact Nat.le_trans (m := 8000) (by omega) (by decide)) fun p5 H5 n5 s5 h5 => ?_
  walk_at "rd"
  have s15 := (s13.trans s4).trans s5
  refine go_slL (SqL.of (s15 _ _ hp)) fun p6 H6 n6 s6 h6 => ?_
  rw [cutV_from, ← List.map_drop] at h6
  refine go_listK (SqL.of h6) ?_
  have hq6 := s6 _ _ (s15 _ _ hq)
  refine lc_F (as := es.drop a) (f := V.int) (fun _ => true) (fun x => .int (if (a : Int) ≤ x then x + os.length else x)) wk_list (fun H2 s' => SqL.of (s' _ _ h6)) (Nat.lt_of_le_of_lt (m := 4000) (by rw [List.length_drop]; omega) (by decide)) (fun _ => rfl) (fun _ _ _ _ => evT_yes) (fun x _ _ H2 s' Q' q' => ?_) (fun L2 H7 n7 s7 h7 => ?_)
  · walk_at "rd"
    refine go_lenL (s' _ _ hq6) ?_
    walk_at "rd"
    rw [List.length_map, pickI, pickD]
    exact q' _ (Same.refl _)
  rw [flatF] at h7
  have e7 : ((es.drop a).map fun x => V.int (if (a : Int) ≤ x then x + os.length else x)) = ((es.drop a).map fun x => if (a : Int) ≤ x then x + os.length else x).map V.int := by
    rw [List.map_map]
    rfl
  rw [e7] at h7
  walk_at "rd"
  refine go_cat (s7 _ _ (s6 _ _ h5)) h7 (by simp only [List.length_append, List.length_map, List.length_take, List.length_drop]; exact Nat.le_trans (m := 12000) (by omega) (by decide)) fun f2 H8 n8 s8 h8 => ?_
  have s17 := (s15.trans s6).trans s7
  refine hQ _ _ ⟨f2, rfl, s17.free n8, s17.trans s8, ?_⟩
  rw [h8, ← List.map_append, ← List.map_append]
  rfl
def sp__law_depth (_ : PySem.W.Frag) : Sp := mkSp (α := Addr × List Int × List Nat × Nat) (fun a => [.ref a.1, .int (a.2.2.2 : Nat)]) (fun a H => H a.1 = some (LI a.2.1) ∧ WoodD a.2.1 a.2.2.1 ∧ a.2.2.2 < a.2.1.length)
  (fun a H v H' => H' = H ∧ ∃ d : Nat, a.2.2.1[a.2.2.2]? = some d ∧ v = .int (d : Nat))
theorem sc__law_depth : FnScope ["_law_elders", "_law_k", "_law_found"] ["_law_elders", "_law_k"] (defScope s__law_depth) := ⟨rfl, rfl, rfl, by decide +kernel, rfl, by decide +kernel, by decide +kernel⟩
theorem ok__law_depth {P : Program} {w : World} {K : PySem.W.Frag} {mg : Str → Option Value} {base : Heap} (T : Top K mg)  : Rdy P w K mg base "_law_depth" 1 ["_law_elders", "_law_k"] (sp__law_depth K) := by
  refine rdy T.g__law_depth T.f__law_depth sc__law_depth (fun _ => rfl) (fun _ _ _ _ _ _ us hl => match us, hl with | [_, _], _ => rfl) fun cdv A outer s H a Q E hr hp hQ => ⟨_, (pss_cons (ps_set (i := 2) sc__law_depth.nd rfl (Or.inl rfl) pe_int)
      (pss_cons (ps_while PassesOwn.never (pt_cmpR (r := rGe) op_ge (pe_ix (r := rIxL K) ix_list (pv 0) (pv 1) (fun _ _ => rfl)) pe_int (nomark _)) (pss_cons (ps_set (i := 1) sc__law_depth.nd rfl (Or.inl rfl) (pe_ix (r := rIxL K) ix_list (pv 0) (pv 1) (fun _ _ => rfl)))
      (pss_one (ps_set (i := 2) sc__law_depth.nd rfl (Or.inl rfl) (pe_op (r := rAddI) op_add (pv 2) pe_int)))))
      (pss_one (ps_ret (pv 2))))), ?_⟩
  obtain ⟨p, es, ds, k⟩ := a
  obtain ⟨hp, hW, hk⟩ := hp
  simp only at hp hW hk
  have hkd : k < ds.length := by rw [← hW.1]; exact hk
  generalize hd : ds[k] = d
  have hd2 : ds[k]? = some d := by rw [List.getElem?_eq_getElem hkd, hd]
  walk_at "go"
  walk_at "rd"
  refine go_while2 (fun m σ' H' => H' = H ∧ ∃ k' : Nat, ds[k']? = some m ∧ σ' = [some (.ref p), some (.int (k' : Nat)), some (.int ((d : Int) - (m : Int)))]) (fun σ' H' => H' = H ∧ ∃ k' : Nat, σ' = [some (.ref p), some (.int (k' : Nat)), some (.int (d : Nat))]) d ?_ ?_ ?_
  · exact ⟨rfl, k, hd2, by rw [Int.sub_self]; rfl⟩
  · rintro D' hnx _ m σ' H' ⟨rfl, k', hk', rfl⟩
    obtain ⟨e, he, hns⟩ := hW.2 _ _ hk'
    walk_at "rd"
    refine go_ixL hp (at_i k' rfl (map_at he)) ?_
    walk_at "rd"
    rcases hns with ⟨q1, q2⟩ | ⟨j, q1, q2, ⟨x, q3, q4⟩, q5⟩
    · rw [decide_eq_false (by omega)]
      refine whK_f (hnx _ _ ⟨rfl, k', ?_⟩)
      rw [q2]
      walk_at "se"
    · rw [decide_eq_true (by omega)]
      refine whK_t ?_
      walk_at "rd"
      refine go_ixL hp (at_i k' rfl (map_at he)) ?_
      walk_at "rd"
      refine ⟨x, by omega, rfl, j, q3, ?_⟩
      rw [q1]
      walk_at "se"
  · rintro σ' H' ⟨rfl, k', rfl⟩
    walk_at "rd"
    exact hQ _ _ ⟨rfl, d, hd2, rfl⟩
def PlaceIs (es : List Int) (ds : List Nat) (k : Int) (pl : Nat) (z : Int) : Prop := match (lsome es k)[pl]? with
  | some i => ∃ d : Nat, ds[i]? = some d ∧ z = 2 * (i : Int) - d
  | none => if k < 0 then z = 2 * (es.length : Int) else ∃ d : Nat, ds[k.toNat]? = some d ∧ z = 2 * (lend es k (k.toNat + 1) : Nat) - d - 1
def sp__law_place (_ : PySem.W.Frag) : Sp := mkSp (α := Addr × List Int × List Nat × Int × Nat) (fun a => [.ref a.1, .int a.2.2.2.1, .int (a.2.2.2.2 : Nat)]) (fun a H => H a.1 = some (LI a.2.1) ∧ WoodD a.2.1 a.2.2.1 ∧ a.2.1.length ≤ 4000 ∧ a.2.2.2.1 < a.2.1.length)
  (fun a H v H' => Same H H' ∧ ∃ z, v = .int z ∧ PlaceIs a.2.1 a.2.2.1 a.2.2.2.1 a.2.2.2.2 z)
theorem sc__law_place : FnScope ["_law_elders", "_law_k", "_law_place_here", "_law_at", "_law_some", "_law_other"] ["_law_elders", "_law_k", "_law_place_here"] (defScope s__law_place) := ⟨rfl, rfl, rfl, by decide +kernel, rfl, by decide +kernel, by decide +kernel⟩
theorem ok__law_place {P : Program} {w : World} {K : PySem.W.Frag} {mg : Str → Option Value} {base : Heap} (T : Top K mg) (R__law_spot : Rdy P w K mg base "_law_spot" 2 ["_law_elders", "_law_k", "_law_place_here"] (sp__law_spot K)) (R__law_depth : Rdy P w K mg base "_law_depth" 1 ["_law_elders", "_law_k"] (sp__law_depth K)) : Rdy P w K mg base "_law_place" 3 ["_law_elders", "_law_k", "_law_place_here"] (sp__law_place K) := by
  refine rdy T.g__law_place T.f__law_place sc__law_place (fun _ => rfl) (fun _ _ _ _ _ _ us hl => match us, hl with | [_, _, _], _ => rfl) fun cdv A outer s H a Q E hr hp hQ => ⟨_, (pss_cons (ps_set (i := 3) sc__law_place.nd rfl (Or.inl rfl) (pe_f R__law_spot (hr.mono (by decide)) (pa_cons (pv 0) (pa_cons (pv 1) (pa_cons (pv 2) pa_nil)))))
      (pss_cons (ps_setLc (i := 4) (own := [("_law_other", 5)]) (g := gName 5) rfl sc__law_place.nd rfl rfl (sw_true rfl rfl rfl (by decide +kernel)) (pi_range1 rfl T.b_range (pa_cons (pe_callB (r := cLenL K) call_len_seq rfl T.b_len (by decide +kernel) (pa_cons (pv 0) pa_nil)) pa_nil)) (blkOk_by (own := [("_law_other", 5)]) (N := ["_law_elders", "_law_k", "_law_place_here", "_law_at", "_law_some", "_law_other"]) (sc := defScope s__law_place) (by decide +kernel)) (fun _ _ _ _ _ => pg_name (i := 5) sc__law_place.nd rfl (Or.inl rfl)) (fun _ _ _ _ _ => by exact (pts_one (pt_cmpR (r := rEq) op_eq (pe_ix (r := rIxL K) ix_list (pv 0) (pv 5) (fun _ _ => rfl)) (pv 1) (nomark _)))) (fun _ _ _ _ _ => by exact (pv 5)))
      (pss_cons (ps_if (pt_cmpR (r := rLt) op_lt (pv 2) (pe_callB (r := cLenL K) call_len_seq rfl T.b_len (by decide +kernel) (pa_cons (pv 4) pa_nil)) (nomark _)) (pss_one (ps_ret (pe_op (r := rSubI) op_sub (pe_op (r := rMulI) op_mul pe_int (pv 3)) (pe_f R__law_depth (hr.mono (by decide)) (pa_cons (pv 0) (pa_cons (pv 3) pa_nil)))))) pss_nil)
      (pss_cons (ps_if (pt_cmpR (r := rLt) op_lt (pv 1) pe_int (nomark _)) (pss_one (ps_ret (pe_op (r := rMulI) op_mul pe_int (pe_callB (r := cLenL K) call_len_seq rfl T.b_len (by decide +kernel) (pa_cons (pv 0) pa_nil))))) pss_nil)
      (pss_one (ps_ret (pe_op (r := rSubI) op_sub (pe_op (r := rSubI) op_sub (pe_op (r := rMulI) op_mul pe_int (pv 3)) (pe_f R__law_depth (hr.mono (by decide)) (pa_cons (pv 0) (pa_cons (pv 1) pa_nil)))) pe_int))))))), ?_⟩
  obtain ⟨p, es, ds, k, pl⟩ := a
  obtain ⟨hp, hW, hl, hkl⟩ := hp
  simp only at hp hW hl hkl
  walk_at "go"
  walk_at "rd"
  refine ⟨(p, es, k, pl), rfl, ⟨hp, hl⟩, ?_⟩
  rintro v H0 ⟨s0, rfl⟩
  have hp0 := s0 _ _ hp
  simp only
  walk_at "rd"
  rw [List.length_map]
  refine go_rng1 (by omega) ?_
  refine lc_F (as := List.range es.length) (f := fun (i : Nat) => .int (0 + (i : Int))) (fun i => decide (es[i]? = some k)) (fun (i : Nat) => .int (i : Int)) wk_rng (fun _ _ => trivial) (by rw [List.length_range]; exact Nat.lt_of_le_of_lt hl (by decide)) (fun _ => rfl) (fun i hi H' s' Q' q' => ?_) (fun i hi _ H' s' Q' q' => ?_) (fun L H1 n1 s1 h1 => ?_)
  · have hil := List.mem_range.mp hi
    rw [Int.zero_add]
    rw [List.getElem?_eq_getElem hil, some_dec] at q'
    walk_at "rd"
    refine go_ixL (s' _ _ hp0) (at_i i rfl (map_at (List.getElem?_eq_getElem hil))) ?_
    walk_at "rd"
    exact q' _ (Same.refl _)
  · rw [Int.zero_add]
    walk_at "rd"
    exact q' _ (Same.refl _)
  rw [lsome_map] at h1
  walk_at "rd"
  rw [List.length_map]
  have hp1 := s1 _ _ hp0
  refine ifB_dec (fun q => ?_) (fun q => ?_)
  · have hlt : pl < (lsome es k).length := by omega
    have e1 : (lsome es k)[pl]? = some ((lsome es k)[pl]) := List.getElem?_eq_getElem hlt
    generalize hi : (lsome es k)[pl] = i at e1
    have hsp : spotN es k pl = i := by
      unfold spotN
      rw [e1]
    have hil : i < es.length := (lsome_mem (List.mem_of_getElem? e1)).1
    rw [hsp]
    walk_at "rd"
    refine ⟨(p, es, ds, i), rfl, ⟨hp1, hW, hil⟩, ?_⟩
    rintro v H2 ⟨eH, d, hd, rfl⟩
    subst eH
    walk_at "rd"
    refine hQ _ _ ⟨s0.trans s1, _, rfl, ?_⟩
    show PlaceIs es ds k pl _
    unfold PlaceIs
    rw [e1]
    exact ⟨d, hd, rfl⟩
  · have hno : (lsome es k)[pl]? = none := List.getElem?_eq_none_iff.mpr (by omega)
    walk_at "rd"
    refine ifB_dec (fun q2 => ?_) (fun q2 => ?_)
    · walk_at "rd"
      refine hQ _ _ ⟨s0.trans s1, _, rfl, ?_⟩
      show PlaceIs es ds k pl _
      unfold PlaceIs
      rw [hno, List.length_map]
      simp only
      rw [if_pos q2]
      trivial
    · have hk : k = (k.toNat : Nat) := by omega
      have hsp : spotN es k pl = lend es k (k.toNat + 1) := by
        unfold spotN
        rw [hno]
        simp only
        rw [if_neg q2]
      rw [hsp]
      walk_at "rd"
      refine ⟨(p, es, ds, k.toNat), by show [V.ref p, V.int k] = [V.ref p, V.int (k.toNat : Nat)]; rw [← hk], ⟨hp1, hW, by show k.toNat < es.length; omega⟩, ?_⟩
      rintro v H2 ⟨eH, d, hd, rfl⟩
      subst eH
      walk_at "rd"
      refine hQ _ _ ⟨s0.trans s1, _, rfl, ?_⟩
      show PlaceIs es ds k pl _
      unfold PlaceIs
      rw [hno]
      simp only
      rw [if_neg q2]
      exact ⟨d, hd, rfl⟩

end
section
/-- one step of a reading; as many as go -/
local macro_rules | `(tactic| walk_at "st") => `(tactic| first
  | with_reducible refine go_seq ?_ | with_reducible refine go_asg ?_ | with_reducible refine go_gname ?_ | ((with_reducible refine go_var (v := ?vv) ?hv ?_); (case hv => rfl)) | with_reducible refine go_c ?_ | with_reducible refine go_op ?_
  | with_reducible refine go_add ?_ | with_reducible refine go_sub ?_ | with_reducible refine go_cb ?_ | with_reducible refine go_cons ?_ | with_reducible refine go_nil ?_ | with_reducible refine go_test ?_ | with_reducible refine go_isB ?_
  | with_reducible refine go_if ?_ | with_reducible refine go_lt ?_ | with_reducible refine go_le ?_ | with_reducible refine go_gt ?_ | with_reducible refine go_ge ?_ | with_reducible refine go_eqI ?_ | with_reducible refine go_neI ?_
  | with_reducible refine go_eq1 ?_ | with_reducible refine go_un ?_ | with_reducible refine go_neg ?_ | with_reducible refine go_tand ?_ | with_reducible refine go_tor ?_ | with_reducible refine go_tnot ?_ | with_reducible refine ifB_t ?_ | with_reducible refine ifB_f ?_ | with_reducible refine ifB_nf ?_ | with_reducible refine ifB_nt ?_
  | with_reducible refine go_andV ?_ | with_reducible refine go_orV ?_ | with_reducible refine go_notV ?_ | with_reducible refine go_chain ?_ | with_reducible refine go_tB ?_ | with_reducible refine go_nilt ?_
  | with_reducible refine go_ret ?_ | with_reducible refine go_retN ?_ | with_reducible refine go_next ?_ | with_reducible refine go_drop ?_ | with_reducible refine go_brk ?_ | with_reducible refine go_ct ?_
  | ((with_reducible refine go_aug (n := ?nn) ?ha ?_); (case ha => rfl)) | with_reducible refine go_augi ?_ | with_reducible refine go_lst ?_ | with_reducible refine go_tup ?_ | with_reducible refine go_pick ?_ | with_reducible refine go_picked ?_
  | with_reducible refine go_sl ?_ | with_reducible refine go_nopart ?_ | with_reducible refine go_part ?_ | with_reducible refine go_parti ?_ | with_reducible refine go_isN ?_ | with_reducible refine go_notN ?_ | with_reducible refine go_inS ?_ | with_reducible refine go_notInS ?_
  | with_reducible refine go_max2 ?_ | with_reducible refine go_min2 ?_ | with_reducible refine go_intB ?_ | with_reducible refine go_abs ?_ | with_reducible refine go_cl ?_ | with_reducible refine go_mt ?_ | with_reducible refine go_fld ?_
  | with_reducible refine go_bm ?_ | with_reducible refine go_bm0 ?_ | with_reducible refine ty_str ?_ | ((with_reducible refine ty_lst (xs := ?xx) ?ht ?_); (case ht => assumption))
  | with_reducible refine go_for ?_ | with_reducible refine go_iStr ?_ | with_reducible refine go_strK ?_ | with_reducible refine go_iList ?_ | with_reducible refine go_iEnS ?_ | with_reducible refine go_enSK ?_ | with_reducible refine go_iEnL ?_
  | with_reducible refine go_iR1 ?_ | with_reducible refine go_iR2 ?_ | with_reducible refine go_iR3 ?_ | with_reducible refine go_lc ?_
  | ((with_reducible refine go_div ?hc ?_); (case hc => decide)) | ((with_reducible refine go_mod ?hc ?_); (case hc => decide)) | ((with_reducible refine go_shr ?hc ?_); (case hc => decide)) | with_reducible refine go_and ?_ | with_reducible refine go_or ?_
  | ((with_reducible refine go_lenS ?hz ?_); (case hz => assumption)) | ((with_reducible refine go_lenL (xs := ?xx) ?hz ?_); (case hz => assumption)) | with_reducible refine go_sfld ?_ | with_reducible refine go_mk ?_ | with_reducible refine go_isiII ?_ | with_reducible refine go_isiIB ?_ | with_reducible refine go_isiSS ?_ | with_reducible refine go_gcons ?_ | with_reducible refine go_gnil ?_ | with_reducible refine go_and ?_ | with_reducible refine go_intS ?_ | with_reducible refine go_slT ?_ | with_reducible refine go_iTup ?_ | ((with_reducible refine go_mul ?hc ?_); (case hc => exact .inl ⟨by decide, by decide⟩)))
local macro_rules | `(tactic| walk_at "rd") => `(tactic| repeat walk_at "st")
local macro_rules | `(tactic| walk_at "go") => `(tactic| dsimp only [cxOf, Cx.nox, Cx.wish, L2.start, List.map, List.length_cons, List.length_nil, List.replicate, Nat.reduceAdd, Nat.reduceSub, List.cons_append, List.nil_append])
local macro_rules | `(tactic| walk_at "sz") => `(tactic| (refine Nat.le_trans (m := 100000) ?_ (by decide); first | (simp only [List.length_cons, List.length_nil, List.length_append, List.length_map]; omega) | omega))
/-- two lists of slots are the same -/
local macro_rules | `(tactic| walk_at "se") => `(tactic| ((try dsimp only [List.set]); (repeat' (first | rfl | refine congr (congrArg List.cons ?_) ?_ | refine congrArg (fun z => some (V.int z)) ?_)); (try omega)))
/-! ## equal lists; the law's tests -/
section
variable {K : PySem.W.Frag} {H : Hp} {Q : VK} {a b : Addr}
theorem canAll {xs : List V} (h : xs.all plainV = true) : PyData.canLayAll0 (xs.map pdOf) = true := (pds_shape h).1
theorem go_neSame {xs : List V} (ha : H a = some (.lst xs)) (hb : H b = some (.lst xs)) (hx : xs.all plainV = true) (q : Q (.bl false) H) : rNeD K (.ref a) (.ref b) H Q := by
  refine ⟨_, _, Dp.lst (SqL.of ha) (dp_plain hx), Dp.lst (SqL.of hb) (dp_plain hx), pdl_shaped hx, pdl_shaped hx, ?_⟩
  rw [SeqAt.eqv_refl (.list (xs.map pdOf)) (canAll hx)]
  exact q
def sumsD (l : List Bool) : PyData := .tuple ((sumsV l).map pdOf)
theorem sums_plain (l : List Bool) : (sumsV l).all plainV = true := rfl
theorem dp_tups : ∀ {ts : List Addr} {ps : List (List Bool)}, TupsAt H ts (ps.map sumsV) → DpAll K H (ts.map V.ref) (ps.map sumsD)
  | [], [], _ => .nil
  | [], p :: ps, h => by cases h.1
  | t :: ts, [], h => by cases h.1
  | t :: ts, p :: ps, h => by
    obtain ⟨t', h1, h2⟩ := h.2 0 (sumsV p) rfl
    have e : t = t' := by simpa using h1
    subst e
    refine .cons (Dp.tup (SqT.of h2) (dp_plain (sums_plain p))) (dp_tups ⟨by have := h.1; simpa using this, fun i row hr => ?_⟩)
    exact h.2 (i + 1) row (by simpa using hr)
theorem sumsD_ok (l : List Bool) : (sumsD l).canLay0 = true ∧ (sumsD l).depth = 1 := by
  have h := pds_shape (sums_plain l)
  exact ⟨h.1, by unfold sumsD; simp only [PyData.depth]; rw [h.2]⟩
theorem sumsD_all : ∀ (ps : List (List Bool)), PyData.canLayAll0 (ps.map sumsD) = true ∧ PyData.depthAll (ps.map sumsD) ≤ 1
  | [] => ⟨rfl, Nat.zero_le _⟩
  | p :: ps => by
    have h1 := sumsD_ok p
    have h2 := sumsD_all ps
    refine ⟨?_, ?_⟩
    · simp [PyData.canLayAll0, h1.1, h2.1]
    · simp only [List.map_cons, PyData.depthAll]
      rw [h1.2]
      omega
theorem go_neTups {ts us : List Addr} {ps : List (List Bool)} (ha : H a = some (.lst (ts.map V.ref))) (hb : H b = some (.lst (us.map V.ref))) (ua : TupsAt H ts (ps.map sumsV)) (ub : TupsAt H us (ps.map sumsV)) (q : Q (.bl false) H) :
    rNeD K (.ref a) (.ref b) H Q := by
  have h := sumsD_all ps
  have hs : SeqAt.shaped (.list (ps.map sumsD)) = true := by
    simp only [SeqAt.shaped, PyData.canLay0, PyData.depth, h.1]
    have := h.2
    simp
    omega
  refine ⟨_, _, Dp.lst (SqL.of ha) (dp_tups ua), Dp.lst (SqL.of hb) (dp_tups ub), hs, hs, ?_⟩
  rw [SeqAt.eqv_refl (.list (ps.map sumsD)) h.1]
  exact q
end
theorem go_pickO {b : Bool} {x n m : Int} {H : Hp} {Q : VK} (q : Q (.int (x + (if b then m else n))) H) : ∃ k : Bool, V.int (if b = true then 1 else 0) = V.int (if k = true then 1 else 0) ∧ rAddI (.int x) (if k = true then V.int m else V.int n) H Q := ⟨b, rfl, by rw [pickI]; exact go_add q⟩
theorem go_neS {x : Str} {H : Hp} {Q : VK} (q : Q (.bl false) H) : rNe (.str x) (.str x) H Q := ⟨rfl, by rw [decide_eq_true rfl]; exact q⟩
def sp__law_sums (_ : PySem.W.Frag) : Sp := mkSp (α := List Bool) (fun l => [.str (S l)]) (fun l _ => l.length ≤ 100000) (fun l H v H' => ∃ t, v = .ref t ∧ H t = none ∧ Same H H' ∧ H' t = some (.tup (sumsV l)))
theorem lst_top : ∀ l : List Bool, lst l ≤ l.length
  | [] => by simp [lst]
  | b :: t => by
    have := lst_top t
    cases b <;> simp only [lst, bv, List.length_cons] <;> simp <;> omega
theorem sc__law_sums : FnScope ["_law_text", "_law_whole_here", "_law_least", "_law_sign"] ["_law_text"] (defScope s__law_sums) := ⟨rfl, rfl, rfl, by decide +kernel, rfl, by decide +kernel, by decide +kernel⟩
theorem ok__law_sums {P : Program} {w : World} {K : PySem.W.Frag} {mg : Str → Option Value} {base : Heap} (T : Top K mg)  : Rdy P w K mg base "_law_sums" 1 ["_law_text"] (sp__law_sums K) := by
  refine rdy T.g__law_sums T.f__law_sums sc__law_sums (fun _ => rfl) (fun _ _ _ _ _ _ us hl => match us, hl with | [_], _ => rfl) fun cdv A outer s H a Q E hr hp hQ => ⟨_, (pss_cons (ps_set (i := 1) sc__law_sums.nd rfl (Or.inl rfl) pe_int)
      (pss_cons (ps_set (i := 2) sc__law_sums.nd rfl (Or.inl rfl) (pe_callB (r := cLenS) call_len_str rfl T.b_len (by decide +kernel) (pa_cons (pv 0) pa_nil)))
      (pss_cons (ps_for PassesOwn.never rfl (pi_str (pv 0)) (pg_name (i := 3) sc__law_sums.nd rfl (Or.inl rfl)) (pss_cons (ps_set (i := 1) sc__law_sums.nd rfl (Or.inl rfl) (pe_op (r := rAddI) op_add (pv 1) (pe_pick (pe_un (r := rNegI) un_neg pe_int) pe_int (pe_callTy (r := cInt) call_int1 rfl T.b_int (by decide +kernel) (pa_cons (pe_cmpR (r := rEq) op_eq (pv 3) pe_str (nomark _)) pa_nil)))))
      (pss_one (ps_set (i := 2) sc__law_sums.nd rfl (Or.inl rfl) (pe_callB (r := cMin2) (call_min2 rfl) rfl T.b_min (by decide +kernel) (pa_cons (pv 2) (pa_cons (pv 1) pa_nil)))))))
      (pss_one (ps_ret (pe_tup (pa_cons (pe_bm PySem.F.plainAttrs_str PySem.F.slot_str_count PySem.F.type_str_count (r := mCount) mt_count (pv 0) (pa_cons pe_str pa_nil)) (pa_cons (pv 1) (pa_cons (pv 2) pa_nil))))))))), ?_⟩
  replace hp : a.length ≤ 100000 := hp
  have hz : a.length ≤ sizeLine := Nat.le_trans hp (by decide)
  walk_at "go"
  walk_at "rd"
  refine loop_str (fun pre σ' H' => H' = H ∧ ∃ x, σ' = [some (.str (S a)), some (.int (ht pre)), some (.int (if pre = [] then (a.length : Int) else min (a.length : Int) (lst pre))), x]) ?_ ?_ ?_
  · exact ⟨rfl, none, rfl⟩
  · rintro pre b post σ' H' e ⟨rfl, x, rfl⟩
    have e2 : ht (pre ++ [b]) = ht pre + (if b then 1 else -1) := by
      rw [ht_app]
      cases b <;> rfl
    have e3 : (if pre ++ [b] = [] then (a.length : Int) else min (a.length : Int) (lst (pre ++ [b]))) = min (if pre = [] then (a.length : Int) else min (a.length : Int) (lst pre)) (ht (pre ++ [b])) := by
      rw [if_neg (by simp)]
      by_cases h0 : pre = []
      · subst h0
        rw [if_pos rfl]
        have : lst ([] ++ [b]) = ht ([] ++ [b]) := by cases b <;> decide
        rw [this]
      · rw [if_neg h0, lst_snoc pre b h0]
        omega
    walk_at "rd"
    refine go_pickO (x := ht pre) ?_
    walk_at "rd"
    rw [← e2, ← e3]
    exact ⟨rfl, _, rfl⟩
  · rintro σ' H' ⟨rfl, x, rfl⟩
    walk_at "rd"
    refine go_count ?_
    walk_at "rd"
    refine go_newT (by walk_at "sz") fun t H2 n2 s2 h2 => ?_
    refine hQ _ _ ⟨t, rfl, n2, s2, ?_⟩
    rw [h2]
    have : (if a = [] then (a.length : Int) else min (a.length : Int) (lst a)) = lst a := by
      by_cases h0 : a = []
      · subst h0
        rfl
      · rw [if_neg h0]
        have := lst_top a
        omega
    rw [this]
    rfl
def sp__law_in_form (_ : PySem.W.Frag) : Sp := mkSp (α := Addr × List (List Bool) × List Bool) (fun a => [.ref a.1, .str (S a.2.2)]) (fun a H => H a.1 = some (LR a.2.1) ∧ a.2.1.flatten = a.2.2 ∧ a.2.2.length ≤ 8000 ∧ Form a.2.1) (fun _ H v H' => Same H H' ∧ v = .bl true)
theorem sc__law_in_form : FnScope ["_law_parts", "_law_row_here", "_law_part_here", "_law_k"] ["_law_parts", "_law_row_here"] (defScope s__law_in_form) := ⟨rfl, rfl, rfl, by decide +kernel, rfl, by decide +kernel, by decide +kernel⟩
theorem ok__law_in_form {P : Program} {w : World} {K : PySem.W.Frag} {mg : Str → Option Value} {base : Heap} (T : Top K mg)  : Rdy P w K mg base "_law_in_form" 1 ["_law_parts", "_law_row_here"] (sp__law_in_form K) := by
  refine rdy T.g__law_in_form T.f__law_in_form sc__law_in_form (fun _ => rfl) (fun _ _ _ _ _ _ us hl => match us, hl with | [_, _], _ => rfl) fun cdv A outer s H a Q E hr hp hQ => ⟨_, (pss_cons (ps_if (PW.pt (pw_or (pt_cmpR (r := rNe) op_ne (pe_bm PySem.F.plainAttrs_str PySem.F.slot_str_join PySem.F.type_str_join (r := mJoin K) mt_join pe_str (pa_cons (pv 0) pa_nil)) (pv 1) (nomark _)) (pw_or1 (pt_cmp (pc_nil (.inr ⟨rfl, rfl⟩) hr.units (pe_lc (own := [("_law_part_here", 2)]) (g := gName 2) rfl sc__law_in_form.nd (pi_list (pv 0)) (blkOk_by (own := [("_law_part_here", 2)]) (N := ["_law_parts", "_law_row_here", "_law_part_here", "_law_k"]) (sc := defScope s__law_in_form) (by decide +kernel)) (fun _ _ _ _ _ => pg_name (i := 2) sc__law_in_form.nd rfl (Or.inl rfl)) (fun _ _ _ _ _ => by exact (pts_one (pt_not (pt_chain (r := rLe) (r' := rLe) op_le op_le pe_int (pe_callB (r := cLenS) call_len_str rfl T.b_len (by decide +kernel) (pa_cons (pv 2) pa_nil)) pe_int)))) (fun _ _ _ _ _ => by exact (pv 2)))))))) (pss_one (ps_ret pe_bl)) pss_nil)
      (pss_one (ps_ret (pe_cmp (pc_nil (.inl ⟨rfl, rfl⟩) hr.units (pe_lc (own := [("_law_k", 3)]) (g := gName 3) rfl sc__law_in_form.nd (pi_range2 rfl T.b_range (pa_cons pe_int (pa_cons (pe_callB (r := cLenL K) call_len_seq rfl T.b_len (by decide +kernel) (pa_cons (pv 0) pa_nil)) pa_nil))) (blkOk_by (own := [("_law_k", 3)]) (N := ["_law_parts", "_law_row_here", "_law_part_here", "_law_k"]) (sc := defScope s__law_in_form) (by decide +kernel)) (fun _ _ _ _ _ => pg_name (i := 3) sc__law_in_form.nd rfl (Or.inl rfl)) (fun _ _ _ _ _ => by exact (pts_one (pt_cmpR (r := rLe) op_le (pe_op (r := rAddI) op_add (pe_callB (r := cLenS) call_len_str rfl T.b_len (by decide +kernel) (pa_cons (pe_ix (r := rIxL K) ix_list (pv 0) (pe_op (r := rSubI) op_sub (pv 3) pe_int) (fun _ _ => rfl)) pa_nil)) (pe_callB (r := cLenS) call_len_str rfl T.b_len (by decide +kernel) (pa_cons (pe_ix (r := rIxL K) ix_list (pv 0) (pv 3) (fun _ _ => rfl)) pa_nil))) pe_int (nomark _)))) (fun _ _ _ _ _ => by exact (pv 3)))))))), ?_⟩
  obtain ⟨p, ps, r⟩ := a
  obtain ⟨hp, hf, hl, hF⟩ := hp
  simp only at hp hf hl hF
  have hc := flat_count ps fun q hq => (hF.sz q hq).1
  rw [hf] at hc
  walk_at "go"
  walk_at "rd"
  refine go_join hp (by rw [hf]; omega) ?_
  rw [hf]
  walk_at "rd"
  refine go_neS ?_
  walk_at "rd"
  refine go_listK (SqL.of hp) ?_
  refine lc_F (as := ps) (f := vr) (fun _ => false) vr wk_list (fun H' s' => SqL.of (s' _ _ hp)) (Nat.lt_of_le_of_lt (m := 8000) (by omega) (by decide)) (fun _ => rfl) (fun x hx H' s' Q' q' => ?_) (fun _ _ h => nomatch h) (fun L H1 n1 s1 h1 => ?_)
  · have hs := hF.sz x hx
    have hz : x.length ≤ sizeLine := Nat.le_trans hs.2 (by decide)
    walk_at "rd"
    rw [decide_eq_true (show (1 : Int) ≤ (x.length : Int) by omega)]
    walk_at "rd"
    rw [decide_eq_true (show (x.length : Int) ≤ 128 by omega)]
    exact q' _ (Same.refl _)
  have e1 : ((ps.filter fun _ => false).map vr) = [] := by simp
  rw [e1] at h1
  refine go_nilN h1 rfl ?_
  walk_at "rd"
  refine ifB_nt ?_
  walk_at "rd"
  refine go_lenL (s1 _ _ hp) ?_
  walk_at "rd"
  rw [List.length_map]
  refine go_rng2 (by omega) ?_
  have ek : ((ps.length : Int) - 1).toNat = ps.length - 1 := by omega
  rw [ek]
  refine lc_F (as := List.range (ps.length - 1)) (f := fun (i : Nat) => .int (1 + (i : Int))) (fun _ => false) (fun (i : Nat) => .int (i : Int)) wk_rng (fun _ _ => trivial) (by rw [List.length_range]; exact Nat.lt_of_le_of_lt (m := 8000) (by omega) (by decide)) (fun _ => rfl) (fun i hi H' s' Q' q' => ?_) (fun _ _ h => nomatch h) (fun L2 H2 n2 s2 h2 => ?_)
  · have hil := List.mem_range.mp hi
    obtain ⟨x, hx⟩ := cum_in (ps := ps) (i := i) (by omega)
    obtain ⟨y, hy⟩ := cum_in (ps := ps) (i := i + 1) (by omega)
    have hxz : x.length ≤ sizeLine := Nat.le_trans (hF.sz x (List.mem_of_getElem? hx)).2 (by decide)
    have hyz : y.length ≤ sizeLine := Nat.le_trans (hF.sz y (List.mem_of_getElem? hy)).2 (by decide)
    have hn := hF.nb i x y hx hy
    have hp2 := s' _ _ (s1 _ _ hp)
    walk_at "rd"
    refine go_ixL hp2 (at_i i (by omega) (map_at hx)) ?_
    walk_at "rd"
    refine go_ixL hp2 (at_i (i + 1) (by omega) (map_at hy)) ?_
    walk_at "rd"
    rw [decide_eq_false (show ¬ (x.length : Int) + (y.length : Int) ≤ 64 by omega)]
    exact q' _ (Same.refl _)
  have e2 : ((List.range (ps.length - 1)).filter fun _ => false).map (fun (i : Nat) => V.int (i : Int)) = [] := by simp
  rw [e2] at h2
  refine go_nilE h2 rfl ?_
  exact hQ _ _ ⟨s1.trans s2, rfl⟩

end
section
/-- one step of a reading; as many as go -/
local macro_rules | `(tactic| walk_at "st") => `(tactic| first
  | with_reducible refine go_seq ?_ | with_reducible refine go_asg ?_ | with_reducible refine go_gname ?_ | ((with_reducible refine go_var (v := ?vv) ?hv ?_); (case hv => rfl)) | with_reducible refine go_c ?_ | with_reducible refine go_op ?_
  | with_reducible refine go_add ?_ | with_reducible refine go_sub ?_ | with_reducible refine go_cb ?_ | with_reducible refine go_cons ?_ | with_reducible refine go_nil ?_ | with_reducible refine go_test ?_ | with_reducible refine go_isB ?_
  | with_reducible refine go_if ?_ | with_reducible refine go_lt ?_ | with_reducible refine go_le ?_ | with_reducible refine go_gt ?_ | with_reducible refine go_ge ?_ | with_reducible refine go_eqI ?_ | with_reducible refine go_neI ?_
  | with_reducible refine go_eq1 ?_ | with_reducible refine go_un ?_ | with_reducible refine go_neg ?_ | with_reducible refine go_tand ?_ | with_reducible refine go_tor ?_ | with_reducible refine go_tnot ?_ | with_reducible refine ifB_t ?_ | with_reducible refine ifB_f ?_ | with_reducible refine ifB_nf ?_ | with_reducible refine ifB_nt ?_
  | with_reducible refine go_andV ?_ | with_reducible refine go_orV ?_ | with_reducible refine go_notV ?_ | with_reducible refine go_chain ?_ | with_reducible refine go_tB ?_ | with_reducible refine go_nilt ?_
  | with_reducible refine go_ret ?_ | with_reducible refine go_retN ?_ | with_reducible refine go_next ?_ | with_reducible refine go_drop ?_ | with_reducible refine go_brk ?_ | with_reducible refine go_ct ?_
  | ((with_reducible refine go_aug (n := ?nn) ?ha ?_); (case ha => rfl)) | with_reducible refine go_augi ?_ | with_reducible refine go_lst ?_ | with_reducible refine go_tup ?_ | with_reducible refine go_pick ?_ | with_reducible refine go_picked ?_
  | with_reducible refine go_sl ?_ | with_reducible refine go_nopart ?_ | with_reducible refine go_part ?_ | with_reducible refine go_parti ?_ | with_reducible refine go_isN ?_ | with_reducible refine go_notN ?_ | with_reducible refine go_inS ?_ | with_reducible refine go_notInS ?_
  | with_reducible refine go_max2 ?_ | with_reducible refine go_min2 ?_ | with_reducible refine go_intB ?_ | with_reducible refine go_abs ?_ | with_reducible refine go_cl ?_ | with_reducible refine go_mt ?_ | with_reducible refine go_fld ?_
  | with_reducible refine go_bm ?_ | with_reducible refine go_bm0 ?_ | with_reducible refine ty_str ?_ | ((with_reducible refine ty_lst (xs := ?xx) ?ht ?_); (case ht => assumption))
  | with_reducible refine go_for ?_ | with_reducible refine go_iStr ?_ | with_reducible refine go_strK ?_ | with_reducible refine go_iList ?_ | with_reducible refine go_iEnS ?_ | with_reducible refine go_enSK ?_ | with_reducible refine go_iEnL ?_
  | with_reducible refine go_iR1 ?_ | with_reducible refine go_iR2 ?_ | with_reducible refine go_iR3 ?_ | with_reducible refine go_lc ?_
  | ((with_reducible refine go_div ?hc ?_); (case hc => decide)) | ((with_reducible refine go_mod ?hc ?_); (case hc => decide)) | ((with_reducible refine go_shr ?hc ?_); (case hc => decide)) | with_reducible refine go_and ?_ | with_reducible refine go_or ?_
  | ((with_reducible refine go_lenS ?hz ?_); (case hz => assumption)) | ((with_reducible refine go_lenL (xs := ?xx) ?hz ?_); (case hz => assumption)) | with_reducible refine go_sfld ?_ | with_reducible refine go_mk ?_ | with_reducible refine go_isiII ?_ | with_reducible refine go_isiIB ?_ | with_reducible refine go_isiSS ?_ | with_reducible refine go_gcons ?_ | with_reducible refine go_gnil ?_ | with_reducible refine go_and ?_ | with_reducible refine go_intS ?_ | with_reducible refine go_slT ?_ | with_reducible refine go_iTup ?_ | ((with_reducible refine go_mul ?hc ?_); (case hc => exact .inl ⟨by decide, by decide⟩)))
local macro_rules | `(tactic| walk_at "rd") => `(tactic| repeat walk_at "st")
local macro_rules | `(tactic| walk_at "go") => `(tactic| dsimp only [cxOf, Cx.nox, Cx.wish, L2.start, List.map, List.length_cons, List.length_nil, List.replicate, Nat.reduceAdd, Nat.reduceSub, List.cons_append, List.nil_append])
local macro_rules | `(tactic| walk_at "sz") => `(tactic| (refine Nat.le_trans (m := 100000) ?_ (by decide); first | (simp only [List.length_cons, List.length_nil, List.length_append, List.length_map]; omega) | omega))
/-- two lists of slots are the same -/
local macro_rules | `(tactic| walk_at "se") => `(tactic| ((try dsimp only [List.set]); (repeat' (first | rfl | refine congr (congrArg List.cons ?_) ?_ | refine congrArg (fun z => some (V.int z)) ?_)); (try omega)))
theorem cnt_lt (x : Nat) : ∀ n : Nat, ((List.range n).filter fun i => decide (i < x)).length = min n x
  | 0 => by simp
  | n + 1 => by
    rw [List.range_succ, List.filter_append, List.length_append, cnt_lt x n]
    by_cases h : n < x
    · simp [h]
      omega
    · simp [h]
      omega
theorem cnt_ge (y : Nat) : ∀ n : Nat, ((List.range n).filter fun i => decide (y ≤ i)).length = n - y
  | 0 => by simp
  | n + 1 => by
    rw [List.range_succ, List.filter_append, List.length_append, cnt_ge y n]
    by_cases h : y ≤ n
    · simp [h]
      omega
    · simp [h]
      omega
structure StayArg where
  pb : Addr
  before : List (List Bool)
  pa : Addr
  low : Nat
  high : Nat
  t : List Bool
  x : Nat
  y : Nat
structure StayPre (a : StayArg) (H : Hp) : Prop where
  hb : H a.pb = some (LR a.before)
  ha : H a.pa = some (LR (putAB a.before a.low a.high a.t a.x a.y))
  ab : AB a.before a.low a.high a.x a.y
  fm : Form a.before
  lh : a.low ≤ a.high
  hh : a.high ≤ a.before.flatten.length
  sz : a.before.length ≤ 8000
def sp__law_stay (_ : PySem.W.Frag) : Sp := mkSp (α := StayArg) (fun a => [.ref a.pb, .ref a.pa, .int (a.low : Nat), .int (a.high : Nat), .int (a.t.length : Nat)]) StayPre (fun _ H v H' => Same H H' ∧ v = .bl true)
def endsL (ps : List (List Bool)) (n : Nat) : List Int := (List.range (n + 1)).map fun i => ((cum ps i : Nat) : Int)
theorem endsL_succ (ps : List (List Bool)) (n : Nat) : endsL ps (n + 1) = endsL ps n ++ [((cum ps (n + 1) : Nat) : Int)] := by
  unfold endsL
  rw [List.range_succ (n := n + 1), List.map_append]
  rfl
theorem endsL_last (ps : List (List Bool)) (n : Nat) : ((endsL ps n).map V.int).getLast? = some (.int (cum ps n : Nat)) := by
  unfold endsL
  rw [List.range_succ, List.map_append, List.map_append]
  exact List.getLast?_concat
theorem endsL_tail (ps : List (List Bool)) (n : Nat) : ((endsL ps n).map V.int).drop 1 = (List.range n).map fun i => V.int (cum ps (i + 1) : Nat) := by
  unfold endsL
  rw [List.range_succ_eq_map, List.map_cons, List.map_cons, List.drop_one, List.tail_cons, List.map_map, List.map_map]
  rfl
theorem endsL_init (ps : List (List Bool)) (n : Nat) : ((endsL ps n).map V.int).dropLast = (List.range n).map fun i => V.int (cum ps i : Nat) := by
  unfold endsL
  rw [List.range_succ, List.map_append, List.map_append]
  show (_ ++ [_]).dropLast = _
  rw [List.dropLast_concat, List.map_map]
  rfl
theorem sc__law_stay : FnScope ["_law_before", "_law_after", "_law_low", "_law_high", "_law_put_in", "_law_ends", "_law_part_here", "_law_ahead", "_law_behind", "_law_end_here"] ["_law_before", "_law_after", "_law_low", "_law_high", "_law_put_in"] (defScope s__law_stay) := ⟨rfl, rfl, rfl, by decide +kernel, rfl, by decide +kernel, by decide +kernel⟩
theorem ok__law_stay {P : Program} {w : World} {K : PySem.W.Frag} {mg : Str → Option Value} {base : Heap} (T : Top K mg)  : Rdy P w K mg base "_law_stay" 1 ["_law_before", "_law_after", "_law_low", "_law_high", "_law_put_in"] (sp__law_stay K) := by
  refine rdy T.g__law_stay T.f__law_stay sc__law_stay (fun _ => rfl) (fun _ _ _ _ _ _ us hl => match us, hl with | [_, _, _, _, _], _ => rfl) fun cdv A outer s H a Q E hr hp hQ => ⟨_, (pss_cons (ps_set (i := 5) sc__law_stay.nd rfl (Or.inl rfl) (pe_lst (pa_cons pe_int pa_nil)))
      (pss_cons (ps_for PassesOwn.never rfl (pi_list (pv 0)) (pg_name (i := 6) sc__law_stay.nd rfl (Or.inl rfl)) (pss_one (ps_expr (pe_bm PySem.F.plainAttrs_list PySem.F.slot_list_append PySem.F.type_list_append mt_append (pv 5) (pa_cons (pe_op (r := rAddI) op_add (pe_ix (r := rIxL K) ix_list (pv 5) (pe_un (r := rNegI) un_neg pe_int) (fun _ _ => rfl)) (pe_callB (r := cLenS) call_len_str rfl T.b_len (by decide +kernel) (pa_cons (pv 6) pa_nil))) pa_nil)))))
      (pss_cons (ps_set (i := 7) sc__law_stay.nd rfl (Or.inl rfl) (pe_callB (r := cMax2) (call_max2 rfl) rfl T.b_max (by decide +kernel) (pa_cons pe_int (pa_cons (pe_op (r := rSubI) op_sub (pe_callB (r := cLenL K) call_len_seq rfl T.b_len (by decide +kernel) (pa_cons (pe_lc (own := [("_law_end_here", 9)]) (g := gName 9) rfl sc__law_stay.nd (pi_list (pe_slice sl_list (pv 5) (po_some pe_int) po_none)) (blkOk_by (own := [("_law_end_here", 9)]) (N := ["_law_before", "_law_after", "_law_low", "_law_high", "_law_put_in", "_law_ends", "_law_part_here", "_law_ahead", "_law_behind", "_law_end_here"]) (sc := defScope s__law_stay) (by decide +kernel)) (fun _ _ _ _ _ => pg_name (i := 9) sc__law_stay.nd rfl (Or.inl rfl)) (fun _ _ _ _ _ => by exact (pts_one (pt_cmpR (r := rLe) op_le (pv 9) (pv 2) (nomark _)))) (fun _ _ _ _ _ => by exact (pv 9))) pa_nil)) pe_int) pa_nil))))
      (pss_cons (ps_set (i := 8) sc__law_stay.nd rfl (Or.inl rfl) (pe_callB (r := cMax2) (call_max2 rfl) rfl T.b_max (by decide +kernel) (pa_cons pe_int (pa_cons (pe_op (r := rSubI) op_sub (pe_callB (r := cLenL K) call_len_seq rfl T.b_len (by decide +kernel) (pa_cons (pe_lc (own := [("_law_end_here", 9)]) (g := gName 9) rfl sc__law_stay.nd (pi_list (pe_slice sl_list (pv 5) po_none (po_some (pe_un (r := rNegI) un_neg pe_int)))) (blkOk_by (own := [("_law_end_here", 9)]) (N := ["_law_before", "_law_after", "_law_low", "_law_high", "_law_put_in", "_law_ends", "_law_part_here", "_law_ahead", "_law_behind", "_law_end_here"]) (sc := defScope s__law_stay) (by decide +kernel)) (fun _ _ _ _ _ => pg_name (i := 9) sc__law_stay.nd rfl (Or.inl rfl)) (fun _ _ _ _ _ => by exact (pts_one (pt_cmpR (r := rGe) op_ge (pv 9) (pv 3) (nomark _)))) (fun _ _ _ _ _ => by exact (pv 9))) pa_nil)) pe_int) pa_nil))))
      (pss_cons (ps_if (PW.pt (pw_or (pt_cmpR (op_neD hr.units) (pe_slice sl_list (pv 1) po_none (po_some (pv 7))) (pe_slice sl_list (pv 0) po_none (po_some (pv 7))) (nomark _)) (pw_or1 (pt_cmpR (r := rLt) op_lt (pe_callB (r := cLenL K) call_len_seq rfl T.b_len (by decide +kernel) (pa_cons (pv 1) pa_nil)) (pe_op (r := rAddI) op_add (pv 7) (pv 8)) (nomark _))))) (pss_one (ps_ret pe_bl)) pss_nil)
      (pss_cons (ps_if (pt_cmpR (op_neD hr.units) (pe_slice sl_list (pv 1) (po_some (pe_op (r := rSubI) op_sub (pe_callB (r := cLenL K) call_len_seq rfl T.b_len (by decide +kernel) (pa_cons (pv 1) pa_nil)) (pv 8))) po_none) (pe_slice sl_list (pv 0) (po_some (pe_op (r := rSubI) op_sub (pe_callB (r := cLenL K) call_len_seq rfl T.b_len (by decide +kernel) (pa_cons (pv 0) pa_nil)) (pv 8))) po_none) (nomark _)) (pss_one (ps_ret pe_bl)) pss_nil)
      (pss_one (ps_ret (pe_cmpR (r := rLe) op_le (pe_op (r := rSubI) op_sub (pe_op (r := rSubI) op_sub (pe_callB (r := cLenL K) call_len_seq rfl T.b_len (by decide +kernel) (pa_cons (pv 1) pa_nil)) (pv 7)) (pv 8)) (pe_op (r := rAddI) op_add pe_int (pe_op (r := rDivI) op_fdiv (pv 4) pe_int)) (nomark _)))))))))), ?_⟩
  obtain ⟨pb, bf, pa, low, high, t, x, y⟩ := a
  obtain ⟨hb, ha, hAB, hF, hlh, hhh, hsz⟩ := hp
  simp only at hb ha hAB hF hlh hhh hsz
  have hxn : x ≤ bf.length := Nat.le_trans hAB.ab hAB.bn
  have hyn := hAB.bn
  walk_at "go"
  walk_at "rd"
  refine go_newL (by walk_at "sz") fun e H1 n1 s1 h1 => ?_
  walk_at "rd"
  refine go_listK (SqL.of (s1 _ _ hb)) ?_
  refine loop_list (as := bf) (f := vr) (fun pre σ' H' => Same H H' ∧ H' e = some (LI (endsL bf pre.length)) ∧ ∃ x6, σ' = [some (.ref pb), some (.ref pa), some (.int (low : Nat)), some (.int (high : Nat)), some (.int (t.length : Nat)), some (.ref e), x6, none, none, none]) ?_ (fun pre post σ' H' _ ⟨s2, _⟩ => SqL.of (s2 _ _ hb)) ?_ ?_
  · exact ⟨s1, h1, none, rfl⟩
  · rintro pre p post σ' H' e1 ⟨s2, h2, x6, rfl⟩
    have hp : bf[pre.length]? = some p := by rw [e1]; simp
    have hpz : p.length ≤ sizeLine := Nat.le_trans (hF.sz p (List.mem_of_getElem? hp)).2 (by decide)
    have hpl : pre.length ≤ 8000 := by
      have := (List.getElem?_eq_some_iff.mp hp).1
      omega
    walk_at "rd"
    refine go_ixL h2 (last_i (endsL_last bf pre.length)) ?_
    walk_at "rd"
    refine go_append h2 (by rw [List.length_map]; unfold endsL; rw [List.length_map, List.length_range]; exact Nat.lt_of_le_of_lt (m := 8001) (by omega) (by decide)) ?_
    walk_at "rd"
    refine ⟨same_mut s2 n1, ?_, _, rfl⟩
    have e2 : (pre ++ [p]).length = pre.length + 1 := by simp
    rw [li_snoc, e2, endsL_succ, cum_succ hp]
    rfl
  rintro σ' H' ⟨s2, h2, x6, rfl⟩
  walk_at "rd"
  refine go_slL (SqL.of h2) fun p3 H3 n3 s3 h3 => ?_
  replace h3 := h3.trans (congrArg (fun z => some (HO.lst z)) ((cutV_from ((endsL bf bf.length).map V.int) 1).trans (endsL_tail bf bf.length)))
  have c1 : ∀ i, i < bf.length → (cum bf (i + 1) ≤ low ↔ i < x) := fun i hi => by
    constructor
    · intro h
      by_cases q : i < x
      · exact q
      · have q2 := hAB.an (by omega)
        have q3 := cum_mono bf (i := x + 1) (j := i + 1) (by omega)
        omega
    · intro h
      have q3 := cum_mono bf (i := i + 1) (j := x) (by omega)
      have := hAB.al
      omega
  have c2 : ∀ i, i < bf.length → (high ≤ cum bf i ↔ y ≤ i) := fun i hi => by
    constructor
    · intro h
      by_cases q : y ≤ i
      · exact q
      · by_cases q2 : x ≤ i
        · have := hAB.bi i q2 (by omega)
          omega
        · have q3 := cum_lt hF.sz (i := i) (j := x) (by omega) hxn
          have := hAB.al
          omega
    · intro h
      rcases hAB.bh with q | q
      · omega
      · have q3 := cum_mono bf (i := y) (j := i) h
        omega
  refine go_listK (SqL.of h3) ?_
  refine lc_F (as := List.range bf.length) (f := fun i => V.int (cum bf (i + 1) : Nat)) (fun i => decide (i < x)) (fun i => V.int (cum bf (i + 1) : Nat)) wk_list (fun H' s' => SqL.of (s' _ _ h3)) (by rw [List.length_range]; exact Nat.lt_of_le_of_lt hsz (by decide)) (fun _ => rfl) (fun i hi H' s' Q' q' => ?_) (fun i hi _ H' s' Q' q' => ?_) (fun L H4 n4 s4 h4 => ?_)
  · have hc := c1 i (List.mem_range.mp hi)
    walk_at "rd"
    by_cases q : i < x
    · rw [decide_eq_true q] at q'
      rw [decide_eq_true (show ((cum bf (i + 1) : Nat) : Int) ≤ (low : Nat) by have := hc.mpr q; omega)]
      exact q' _ (Same.refl _)
    · rw [decide_eq_false q] at q'
      rw [decide_eq_false (show ¬ ((cum bf (i + 1) : Nat) : Int) ≤ (low : Nat) by intro z; exact q (hc.mp (by omega)))]
      exact q' _ (Same.refl _)
  · walk_at "rd"
    exact q' _ (Same.refl _)
  walk_at "rd"
  rw [List.length_map, cnt_lt, Nat.min_eq_right hxn]
  have e4 : max (0 : Int) ((x : Int) - 2) = ((x - 2 : Nat) : Int) := by omega
  rw [e4]
  have s14 := (s2.trans s3).trans s4
  have h2' := s4 _ _ (s3 _ _ h2)
  refine go_slL (SqL.of h2') fun p5 H5 n5 s5 h5 => ?_
  rw [cutV_init, endsL_init] at h5
  refine go_listK (SqL.of h5) ?_
  refine lc_F (as := List.range bf.length) (f := fun i => V.int (cum bf i : Nat)) (fun i => decide (y ≤ i)) (fun i => V.int (cum bf i : Nat)) wk_list (fun H' s' => SqL.of (s' _ _ h5)) (by rw [List.length_range]; exact Nat.lt_of_le_of_lt hsz (by decide)) (fun _ => rfl) (fun i hi H' s' Q' q' => ?_) (fun i hi _ H' s' Q' q' => ?_) (fun L2 H6 n6 s6 h6 => ?_)
  · have hc := c2 i (List.mem_range.mp hi)
    walk_at "rd"
    by_cases q : y ≤ i
    · rw [decide_eq_true q] at q'
      rw [decide_eq_true (show ((high : Nat) : Int) ≤ (cum bf i : Nat) by have := hc.mpr q; omega)]
      exact q' _ (Same.refl _)
    · rw [decide_eq_false q] at q'
      rw [decide_eq_false (show ¬ ((high : Nat) : Int) ≤ (cum bf i : Nat) by intro z; exact q (hc.mp (by omega)))]
      exact q' _ (Same.refl _)
  · walk_at "rd"
    exact q' _ (Same.refl _)
  walk_at "rd"
  rw [List.length_map, cnt_ge]
  have e5 : max (0 : Int) (((bf.length - y : Nat) : Int) - 2) = ((bf.length - y - 2 : Nat) : Int) := by omega
  rw [e5]
  have s16 := (s14.trans s5).trans s6
  have ha6 := s16 _ _ ha
  have hb6 := s16 _ _ hb
  have hcl := cuts_len (amid bf low high t x y)
  have hal := amid_le hAB hF.sz hlh hhh (t := t)
  have hL : (putAB bf low high t x y).length = (x - 2) + (cuts (amid bf low high t x y)).length + (bf.length - y - 2) := by
    unfold putAB
    simp only [List.length_append, List.length_take, List.length_drop]
    omega
  have hT : (putAB bf low high t x y).take (x - 2) = bf.take (x - 2) := by
    unfold putAB
    rw [List.append_assoc, List.take_append_of_le_length (by rw [List.length_take]; omega), List.take_take, Nat.min_self]
  have hD : (putAB bf low high t x y).drop ((putAB bf low high t x y).length - (bf.length - y - 2)) = bf.drop (bf.length - (bf.length - y - 2)) := by
    have e6 : (putAB bf low high t x y).length - (bf.length - y - 2) = (bf.take (x - 2) ++ cuts (amid bf low high t x y)).length := by
      rw [hL, List.length_append, List.length_take]
      omega
    rw [e6]
    unfold putAB
    rw [List.drop_left]
    by_cases q : y + 2 ≤ bf.length
    · congr 1
      omega
    · rw [List.drop_of_length_le (by omega), List.drop_of_length_le (by omega)]
  generalize hps : putAB bf low high t x y = af at *
  generalize hcs : cuts (amid bf low high t x y) = cs at *
  refine go_slL (SqL.of ha6) fun p7 H7 n7 s7 h7 => ?_
  rw [cutV_to, ← List.map_take, hT] at h7
  walk_at "rd"
  refine go_slL (SqL.of (s7 _ _ hb6)) fun p8 H8 n8 s8 h8 => ?_
  rw [cutV_to, ← List.map_take] at h8
  refine go_neSame (s8 _ _ h7) h8 (plain_rows _) ?_
  have s18 := (s16.trans s7).trans s8
  have ha8 := s18 _ _ ha
  have hb8 := s18 _ _ hb
  walk_at "rd"
  rw [List.length_map]
  refine ifB_n (decide_eq_false (by omega)) ?_
  walk_at "rd"
  rw [List.length_map]
  have e7 : (af.length : Int) - ((bf.length - y - 2 : Nat) : Int) = ((af.length - (bf.length - y - 2) : Nat) : Int) := by omega
  rw [e7]
  refine go_slL (SqL.of ha8) fun p9 H9 n9 s9 h9 => ?_
  rw [cutV_from, ← List.map_drop, hD] at h9
  have hb9 := s9 _ _ hb8
  walk_at "rd"
  rw [List.length_map]
  have e8 : (bf.length : Int) - ((bf.length - y - 2 : Nat) : Int) = ((bf.length - (bf.length - y - 2) : Nat) : Int) := by omega
  rw [e8]
  refine go_slL (SqL.of hb9) fun p10 H10 n10 s10 h10 => ?_
  rw [cutV_from, ← List.map_drop] at h10
  refine go_neSame (s10 _ _ h9) h10 (plain_rows _) ?_
  have s1x := (s18.trans s9).trans s10
  have hax := s1x _ _ ha
  walk_at "rd"
  rw [List.length_map, decide_eq_true (by omega)]
  exact hQ _ _ ⟨s1x, rfl⟩
structure KnArg where
  s : ShArg
  ep : Addr
  es : List Int
  at0 : Int
def sp__law_knots (K : PySem.W.Frag) : Sp := mkSp (α := KnArg) (fun a => [.ref a.s.p, .ref a.ep, .int a.at0]) (fun a H => ShPre K a.s H ∧ H a.ep = some (LI a.es) ∧ Wood a.es a.s.r) (fun _ H v H' => Same H H' ∧ v = .bl true)
theorem go_neRef {x : V} {H : Hp} {Q : VK} (hs : scal x x = true) (q : Q (.bl false) H) : rNe x x H Q := ⟨hs, by rw [decide_eq_true rfl]; exact q⟩
theorem sc__law_knots : FnScope ["_law_wood_here", "_law_elders", "_law_at", "_law_k", "_law_elder"] ["_law_wood_here", "_law_elders", "_law_at"] (defScope s__law_knots) := ⟨rfl, rfl, rfl, by decide +kernel, rfl, by decide +kernel, by decide +kernel⟩
theorem ok__law_knots {P : Program} {w : World} {K : PySem.W.Frag} {mg : Str → Option Value} {base : Heap} (T : Top K mg) (R_Shaped_elder : RdyM P w K mg base "Shaped" "elder" 3 ["self", "k"] (sp_Shaped_elder K)) (R_Shaped_beneath : RdyM P w K mg base "Shaped" "beneath" 3 ["self", "k"] (sp_Shaped_beneath K)) (R__law_end : Rdy P w K mg base "_law_end" 1 ["_law_elders", "_law_k"] (sp__law_end K)) (R_Shaped_depth : RdyM P w K mg base "Shaped" "depth" 3 ["self", "k"] (sp_Shaped_depth K)) (R__law_depth : Rdy P w K mg base "_law_depth" 1 ["_law_elders", "_law_k"] (sp__law_depth K)) : Rdy P w K mg base "_law_knots" 4 ["_law_wood_here", "_law_elders", "_law_at"] (sp__law_knots K) := by
  refine rdy T.g__law_knots T.f__law_knots sc__law_knots (fun _ => rfl) (fun _ _ _ _ _ _ us hl => match us, hl with | [_, _, _], _ => rfl) fun cdv A outer s H a Q E hr hp hQ => ⟨_, (pss_cons (ps_for PassesOwn.never rfl (pi_list (pe_lst (pa_cons (pe_op (r := rSubI) op_sub (pv 2) pe_int) (pa_cons (pv 2) (pa_cons (pe_op (r := rAddI) op_add (pv 2) pe_int) (pa_cons (pe_op (r := rSubI) op_sub (pe_callB (r := cLenL K) call_len_seq rfl T.b_len (by decide +kernel) (pa_cons (pv 1) pa_nil)) pe_int) pa_nil)))))) (pg_name (i := 3) sc__law_knots.nd rfl (Or.inl rfl)) (pss_one (ps_if (pt_chain (r := rLe) (r' := rLt) op_le op_lt pe_int (pv 3) (pe_callB (r := cLenL K) call_len_seq rfl T.b_len (by decide +kernel) (pa_cons (pv 1) pa_nil))) (pss_cons (ps_set (i := 4) sc__law_knots.nd rfl (Or.inl rfl) (pe_pick (pe_ix (r := rIxL K) ix_list (pv 1) (pv 3) (fun _ _ => rfl)) pe_non (pe_callTy (r := cInt) call_int1 rfl T.b_int (by decide +kernel) (pa_cons (pe_cmpR (r := rLt) op_lt (pe_ix (r := rIxL K) ix_list (pv 1) (pv 3) (fun _ _ => rfl)) pe_int (nomark _)) pa_nil))))
      (pss_cons (ps_if (PW.pt (pw_or (pt_cmpR (r := rNe) op_ne (pe_m R_Shaped_elder (hr.mono (by decide)) (pv 0) (pa_cons (pv 3) pa_nil)) (pv 4) (nomark _)) (pw_or1 (pt_cmpR (r := rNe) op_ne (pe_m R_Shaped_beneath (hr.mono (by decide)) (pv 0) (pa_cons (pv 3) pa_nil)) (pe_op (r := rSubI) op_sub (pe_op (r := rSubI) op_sub (pe_f R__law_end (hr.mono (by decide)) (pa_cons (pv 1) (pa_cons (pv 3) pa_nil))) (pv 3)) pe_int) (nomark _))))) (pss_one (ps_ret pe_bl)) pss_nil)
      (pss_one (ps_if (pt_cmpR (r := rNe) op_ne (pe_m R_Shaped_depth (hr.mono (by decide)) (pv 0) (pa_cons (pv 3) pa_nil)) (pe_f R__law_depth (hr.mono (by decide)) (pa_cons (pv 1) (pa_cons (pv 3) pa_nil))) (nomark _)) (pss_one (ps_ret pe_bl)) pss_nil)))) pss_nil)))
      (pss_one (ps_ret pe_bl))), ?_⟩
  obtain ⟨a, ep, es, at0⟩ := a
  obtain ⟨hS, hep, hw⟩ := hp
  simp only at hS hep hw
  obtain ⟨⟨dx, pl, tl, ts, as, h⟩, ok⟩ := id hS
  walk_at "go"
  walk_at "rd"
  rw [List.length_map]
  refine go_newL (by walk_at "sz") fun lp H1 n1 s1 h1 => ?_
  refine go_listK (SqL.of h1) ?_
  refine loop_list (as := [at0 - 1, at0, at0 + 1, (es.length : Int) - 1]) (f := V.int) (fun pre σ' H' => Same H1 H' ∧ ∃ x y, σ' = [some (.ref a.p), some (.ref ep), some (.int at0), x, y]) ?_ (fun pre post σ' H' _ ⟨s2, _⟩ => SqL.of (s2 _ _ h1)) ?_ ?_
  · exact ⟨Same.refl _, none, none, rfl⟩
  · rintro pre k post σ' H' _ ⟨s2, x, y, rfl⟩
    have h' := (h.mono s1).mono s2
    have hep' := s2 _ _ (s1 _ _ hep)
    walk_at "rd"
    refine ifB_dec (fun q1 => ?_) (fun q1 => ?_)
    · walk_at "rd"
      rw [List.length_map]
      refine ifB_dec (fun q2 => ?_) (fun q2 => ?_)
      · obtain ⟨j, rfl⟩ : ∃ j : Nat, k = (j : Int) := ⟨k.toNat, by omega⟩
        have hj : j < es.length := by omega
        have hjo : j < ones a.r := by rw [← (wood_len hw).1]; exact hj
        obtain ⟨A', B, C, e, hk2, hnn, hb, _⟩ := knot_split ok.bal hjo
        have hK : Kt a.r A' B C := ⟨e, hb⟩
        obtain ⟨el, hel⟩ : ∃ el, es[j]? = some el := ⟨_, List.getElem?_eq_getElem hj⟩
        walk_at "rd"
        refine go_ixL hep' (at_i j rfl (map_at hel)) ?_
        walk_at "rd"
        refine go_ixL hep' (at_i j rfl (map_at hel)) ?_
        walk_at "rd"
        refine go_pickG ?_
        rw [show (if decide (el < 0) = true then V.non else V.int el) = (if el < 0 then V.non else V.int el) by by_cases q : el < 0 <;> simp [q]]
        walk_at "rd"
        refine go_mtK h'.ob (sh_no (by decide +kernel) (by decide +kernel) (by decide +kernel)) ?_
        walk_at "rd"
        refine ⟨(a, es, j), rfl, ⟨⟨⟨dx, pl, tl, ts, as, h'⟩, ok⟩, hw, hj⟩, ?_⟩
        rintro v H2 ⟨s3, el2, hel2, rfl⟩
        simp only at hel2
        rw [hel] at hel2
        have e9 := Option.some.inj hel2
        subst e9
        have h2 := h'.mono s3
        walk_at "rd"
        refine go_neRef (by by_cases q : el < 0 <;> simp [q, scal]) ?_
        walk_at "rd"
        refine go_mtK h2.ob (sh_no (by decide +kernel) (by decide +kernel) (by decide +kernel)) ?_
        walk_at "rd"
        refine ⟨(a, A', B, C), by show [V.ref a.p, V.int j] = [V.ref a.p, V.int (ones A' : Nat)]; rw [hk2], ⟨⟨⟨dx, pl, tl, ts, as, h2⟩, ok⟩, hK⟩, ?_⟩
        rintro v H3 ⟨s4, rfl⟩
        have h3 := h2.mono s4
        have hep3 := s4 _ _ (s3 _ _ hep')
        walk_at "rd"
        refine ⟨(ep, es, j), rfl, hep3, ?_⟩
        rintro v H4 ⟨eH, rfl⟩
        subst eH
        walk_at "rd"
        have hle : lend es (j : Nat) (j + 1) = ones A' + 1 + ones B := by
          have hka := knot_at (C := C) hnn hb
          rw [← e, hk2] at hka
          rw [hk2]
          exact lend_eq hw.2 hka
        simp only
        rw [hle]
        rw [decide_eq_true (show ((ones B : Nat) : Int) = ((ones A' + 1 + ones B : Nat) : Int) - (j : Int) - 1 by omega)]
        walk_at "rd"
        refine go_mtK h3.ob (sh_no (by decide +kernel) (by decide +kernel) (by decide +kernel)) ?_
        walk_at "rd"
        refine ⟨(a, j), rfl, ⟨⟨⟨dx, pl, tl, ts, as, h3⟩, ok⟩, hjo⟩, ?_⟩
        rintro v H5 ⟨s5, d, hd, rfl⟩
        simp only at hd
        have hep5 := s5 _ _ hep3
        walk_at "rd"
        refine ⟨(ep, es, dep a.r 0, j), rfl, ⟨hep5, hw.2, hj⟩, ?_⟩
        rintro v H6 ⟨eH, d2, hd2, rfl⟩
        subst eH
        simp only at hd2
        rw [hd] at hd2
        have e10 := Option.some.inj hd2
        subst e10
        walk_at "rd"
        rw [decide_eq_true rfl]
        walk_at "rd"
        exact ⟨((s2.trans s3).trans s4).trans s5, _, _, rfl⟩
      · walk_at "rd"
        exact ⟨s2, _, _, rfl⟩
    · walk_at "rd"
      exact ⟨s2, _, _, rfl⟩
  · rintro σ' H' ⟨s2, x, y, rfl⟩
    walk_at "rd"
    exact hQ _ _ ⟨s1.trans s2, rfl⟩

end
/-! ## where a graft lies -/
/-- where a graft at the end lies -/
def FnO (o : Option (List Bool × List Bool × List Bool)) (P R : List Bool) : Prop := match o with | none => R = [] | some (A, B, _) => P = A ++ true :: B
structure GrAt (es : List Int) (r : List Bool) (k : Int) (pl : Nat) (o : Option (List Bool × List Bool × List Bool)) (P R : List Bool) : Prop where
  kv : kv o = if k < 0 then V.non else V.int k
  kt : KtO r o
  e : r = P ++ R
  kd : kids r o = (lsome es k).map fun (i : Nat) => (i : Int)
  sp : spotN es k pl = ones P
  ns : NS (dep (P ++ R) 0) (ones P) (hgt P 0) k
  md : pl < (lsome es k).length → ∃ B C, R = true :: (B ++ false :: C) ∧ Bal B 0 ∧ ((lsome es k).map fun (i : Nat) => (i : Int))[pl]? = some ((ones P : Nat) : Int)
  fn : pl = (lsome es k).length → FnO o P R
  z : ∀ z, PlaceIs es (dep r 0) k pl z → z = (P.length : Nat)
theorem len_hgt {A : List Bool} (h : Nn A 0) : (A.length : Int) = 2 * (ones A : Nat) - (hgt A 0 : Nat) := by
  have h1 := nn_ht A 0 h
  have h2 := ht_ones A
  omega
theorem knot_o {es : List Int} {r : List Bool} (hw : Wood es r) {k : Int} (h0 : -1 ≤ k) (h1 : k < es.length) : ∃ o, kv o = (if k < 0 then V.non else V.int k) ∧ KtO r o ∧ (kids r o = (lsome es k).map fun (i : Nat) => (i : Int)) ∧
    (match o with | none => k = -1 | some (A, B, C) => k = (ones A : Nat) ∧ r = A ++ true :: (B ++ false :: C) ∧ Nn A 0 ∧ Bal B 0) := by
  by_cases hk : k < 0
  · have e : k = -1 := by omega
    subst e
    exact ⟨none, by rw [if_pos (by decide)]; rfl, trivial, tops_all hw, rfl⟩
  · have hj : k.toNat < ones r := by rw [← (wood_len hw).1]; omega
    obtain ⟨A, B, C, e, hk2, hn, hb, _⟩ := knot_split hw.1 hj
    have e2 : k = (ones A : Nat) := by omega
    refine ⟨some (A, B, C), ?_, ⟨e, hb⟩, ?_, e2, e, hn, hb⟩
    · rw [if_neg hk, e2]
      rfl
    · rw [e2]
      rw [e] at hw
      exact tops_kids hw hn hb
theorem graft_at {es : List Int} {r : List Bool} (hw : Wood es r) {k : Int} (h0 : -1 ≤ k) (h1 : k < es.length) {pl : Nat} (hpl : pl ≤ (lsome es k).length) : ∃ o P R, GrAt es r k pl o P R := by
  obtain ⟨o, o1, o2, o3, o4⟩ := knot_o hw h0 h1
  cases hi : (lsome es k)[pl]? with
  | some i =>
    obtain ⟨i1, i2⟩ := lsome_mem (List.mem_of_getElem? hi)
    have hlt := (List.getElem?_eq_some_iff.mp hi).1
    obtain ⟨P, B, C, e, hk2, hn, hb, _⟩ := knot_split hw.1 (k := i) (by rw [← (wood_len hw).1]; exact i1)
    have hd : (dep r 0)[i]? = some (hgt P 0) := by
      rw [e, ← hk2]
      exact dep_at
    refine ⟨o, P, true :: (B ++ false :: C), o1, o2, e, o3, ?_, ?_, fun _ => ⟨B, C, rfl, hb, ?_⟩, fun q => by omega, fun z hz => ?_⟩
    · unfold spotN
      rw [hi, hk2]
    · rw [← e, hk2]
      obtain ⟨e', q1, q2⟩ := hw.2.2 _ _ hd
      rw [i2] at q1
      rw [Option.some.inj q1]
      exact q2
    · rw [map_at hi, hk2]
    · unfold PlaceIs at hz
      rw [hi] at hz
      obtain ⟨d, d1, d2⟩ := hz
      rw [hd] at d1
      have := Option.some.inj d1
      have := len_hgt hn
      omega
  | none =>
    have hge := List.getElem?_eq_none_iff.mp hi
    cases o with
    | none =>
      have ek : k = -1 := o4
      subst ek
      obtain ⟨w1, w2⟩ := wood_len hw
      refine ⟨none, r, [], o1, o2, (List.append_nil r).symm, o3, ?_, .inl ⟨rfl, (bal_nn _ _ hw.1).2⟩, fun q => by omega, fun _ => rfl, fun z hz => ?_⟩
      · unfold spotN
        rw [hi]
        simp only
        rw [if_pos (by decide), w1]
      · unfold PlaceIs at hz
        rw [hi] at hz
        simp only at hz
        rw [if_pos (by decide)] at hz
        omega
    | some q =>
      obtain ⟨A, B, C⟩ := q
      obtain ⟨ek, e, hn, hb⟩ := o4
      have hka := knot_at (C := C) hn hb
      rw [← e] at hka
      have hle : lend es (ones A : Nat) (ones A + 1) = ones A + 1 + ones B := lend_eq hw.2 hka
      have hnk : ¬ k < 0 := by omega
      have ekn : k.toNat = ones A := by omega
      have hoP : ones (A ++ true :: B) = ones A + 1 + ones B := by
        rw [ones_app]
        show _ + (ones B + 1) = _
        omega
      have hhP : hgt (A ++ true :: B) 0 = hgt A 0 + 1 := by
        rw [hgt_app]
        show hgt B (hgt A 0 + 1) = _
        exact (bal_up _ hb).2.1
      have er : r = (A ++ true :: B) ++ false :: C := by rw [e]; simp
      refine ⟨some (A, B, C), A ++ true :: B, false :: C, o1, o2, er, o3, ?_, ?_, fun q => by omega, fun _ => rfl, fun z hz => ?_⟩
      · unfold spotN
        rw [hi]
        simp only
        rw [if_neg hnk, ekn, hoP, ek]
        exact hle
      · rw [← er, hoP, hhP]
        refine .inr ⟨ones A, ek, by omega, ⟨hgt A 0, hka.at_, rfl⟩, fun i x j1 j2 j3 => hka.in_ i x j1 j2 j3⟩
      · unfold PlaceIs at hz
        rw [hi] at hz
        simp only at hz
        rw [if_neg hnk, ekn, ek] at hz
        obtain ⟨d, d1, d2⟩ := hz
        rw [hka.at_] at d1
        have := Option.some.inj d1
        have h3 := len_hgt hn
        have h4 := bal_len hb
        rw [hle] at d2
        rw [d2]
        simp only [List.length_append, List.length_cons]
        omega

section
/-- one step of a reading; as many as go -/
local macro_rules | `(tactic| walk_at "st") => `(tactic| first
  | with_reducible refine go_seq ?_ | with_reducible refine go_asg ?_ | with_reducible refine go_gname ?_ | ((with_reducible refine go_var (v := ?vv) ?hv ?_); (case hv => rfl)) | with_reducible refine go_c ?_ | with_reducible refine go_op ?_
  | with_reducible refine go_add ?_ | with_reducible refine go_sub ?_ | with_reducible refine go_cb ?_ | with_reducible refine go_cons ?_ | with_reducible refine go_nil ?_ | with_reducible refine go_test ?_ | with_reducible refine go_isB ?_
  | with_reducible refine go_if ?_ | with_reducible refine go_lt ?_ | with_reducible refine go_le ?_ | with_reducible refine go_gt ?_ | with_reducible refine go_ge ?_ | with_reducible refine go_eqI ?_ | with_reducible refine go_neI ?_
  | with_reducible refine go_eq1 ?_ | with_reducible refine go_un ?_ | with_reducible refine go_neg ?_ | with_reducible refine go_tand ?_ | with_reducible refine go_tor ?_ | with_reducible refine go_tnot ?_ | with_reducible refine ifB_t ?_ | with_reducible refine ifB_f ?_ | with_reducible refine ifB_nf ?_ | with_reducible refine ifB_nt ?_
  | with_reducible refine go_andV ?_ | with_reducible refine go_orV ?_ | with_reducible refine go_notV ?_ | with_reducible refine go_chain ?_ | with_reducible refine go_tB ?_ | with_reducible refine go_nilt ?_
  | with_reducible refine go_ret ?_ | with_reducible refine go_retN ?_ | with_reducible refine go_next ?_ | with_reducible refine go_drop ?_ | with_reducible refine go_brk ?_ | with_reducible refine go_ct ?_
  | ((with_reducible refine go_aug (n := ?nn) ?ha ?_); (case ha => rfl)) | with_reducible refine go_augi ?_ | with_reducible refine go_lst ?_ | with_reducible refine go_tup ?_ | with_reducible refine go_pick ?_ | with_reducible refine go_picked ?_
  | with_reducible refine go_sl ?_ | with_reducible refine go_nopart ?_ | with_reducible refine go_part ?_ | with_reducible refine go_parti ?_ | with_reducible refine go_isN ?_ | with_reducible refine go_notN ?_ | with_reducible refine go_inS ?_ | with_reducible refine go_notInS ?_
  | with_reducible refine go_max2 ?_ | with_reducible refine go_min2 ?_ | with_reducible refine go_intB ?_ | with_reducible refine go_abs ?_ | with_reducible refine go_cl ?_ | with_reducible refine go_mt ?_ | with_reducible refine go_fld ?_
  | with_reducible refine go_bm ?_ | with_reducible refine go_bm0 ?_ | with_reducible refine ty_str ?_ | ((with_reducible refine ty_lst (xs := ?xx) ?ht ?_); (case ht => assumption))
  | with_reducible refine go_for ?_ | with_reducible refine go_iStr ?_ | with_reducible refine go_strK ?_ | with_reducible refine go_iList ?_ | with_reducible refine go_iEnS ?_ | with_reducible refine go_enSK ?_ | with_reducible refine go_iEnL ?_
  | with_reducible refine go_iR1 ?_ | with_reducible refine go_iR2 ?_ | with_reducible refine go_iR3 ?_ | with_reducible refine go_lc ?_
  | ((with_reducible refine go_div ?hc ?_); (case hc => decide)) | ((with_reducible refine go_mod ?hc ?_); (case hc => decide)) | ((with_reducible refine go_shr ?hc ?_); (case hc => decide)) | with_reducible refine go_and ?_ | with_reducible refine go_or ?_
  | ((with_reducible refine go_lenS ?hz ?_); (case hz => assumption)) | ((with_reducible refine go_lenL (xs := ?xx) ?hz ?_); (case hz => assumption)) | with_reducible refine go_sfld ?_ | with_reducible refine go_mk ?_ | with_reducible refine go_isiII ?_ | with_reducible refine go_isiIB ?_ | with_reducible refine go_isiSS ?_ | with_reducible refine go_gcons ?_ | with_reducible refine go_gnil ?_ | with_reducible refine go_and ?_ | with_reducible refine go_intS ?_ | with_reducible refine go_slT ?_ | with_reducible refine go_iTup ?_ | ((with_reducible refine go_mul ?hc ?_); (case hc => exact .inl ⟨by decide, by decide⟩)))
local macro_rules | `(tactic| walk_at "rd") => `(tactic| repeat walk_at "st")
local macro_rules | `(tactic| walk_at "go") => `(tactic| dsimp only [cxOf, Cx.nox, Cx.wish, L2.start, List.map, List.length_cons, List.length_nil, List.replicate, Nat.reduceAdd, Nat.reduceSub, List.cons_append, List.nil_append])
local macro_rules | `(tactic| walk_at "sz") => `(tactic| (refine Nat.le_trans (m := 100000) ?_ (by decide); first | (simp only [List.length_cons, List.length_nil, List.length_append, List.length_map]; omega) | omega))
/-- two lists of slots are the same -/
local macro_rules | `(tactic| walk_at "se") => `(tactic| ((try dsimp only [List.set]); (repeat' (first | rfl | refine congr (congrArg List.cons ?_) ?_ | refine congrArg (fun z => some (V.int z)) ?_)); (try omega)))
/-! ## the law -/
structure LwSt (K : PySem.W.Frag) (p al lp : Addr) (cells : List Int) (i : Nat) (H : Hp) (ep : Addr) (es : List Int) (r : List Bool) (ps : List (List Bool)) : Prop where
  lc : H lp = some (LI cells)
  he : H ep = some (LI es)
  ne : ep ≠ al
  wd : Wood es r
  sh : ShapedAt K H p al ps i
  fl : ps.flatten = r
  fm : Form ps
  sz : es.length ≤ 720 + 60 * i
theorem LwSt.ok {K : PySem.W.Frag} {p al lp : Addr} {cells : List Int} {i : Nat} {H : Hp} {ep : Addr} {es : List Int} {r : List Bool} {ps : List (List Bool)} (h : LwSt K p al lp cells i H ep es r ps) (hi : i ≤ 10) : Ok ps r ∧ es.length ≤ 1320 ∧ r.length = 2 * es.length ∧ es.length = ones r := by
  obtain ⟨h1, h2⟩ := wood_len h.wd
  have := h.sz
  refine ⟨⟨h.fl, h.fm, h.wd.1, by omega⟩, by omega, h2, h1⟩
/-- behind a deed -/
structure Deed (K : PySem.W.Frag) (p al lp : Addr) (cells : List Int) (i : Nat) (bp : Addr) (r : List Bool) (ps : List (List Bool)) (H : Hp) (ep : Addr) (es' : List Int) (oq : Addr) (os : List Int) (low high : Nat) (t : List Bool) (x y : Nat) : Prop where
  st : LwSt K p al lp cells (i + 1) H ep es' (r.take low ++ t ++ r.drop high) (putAB ps low high t x y)
  hbp : H bp = some (LR ps)
  hoq : H oq = some (LI os)
  tl : t.length = 2 * os.length
  ab : AB ps low high x y
  lh : low ≤ high
  hl : high ≤ r.length
theorem ne_new {H : Hp} {a b : Addr} {o : HO} (n : H a = none) (h : H b = some o) : a ≠ b := fun e => by
  rw [e, h] at n
  cases n
theorem wout_len (es : List Int) (k e : Nat) (h : k ≤ e) : (wout es k e).length ≤ es.length := by
  unfold wout
  simp only [List.length_append, List.length_take, List.length_map, List.length_drop]
  omega
theorem cut_1220 (ns : List Int) : cutV (ns.map V.int) (some 12) (some 20) = ((ns.drop 12).take 8).map V.int := by
  rw [List.map_take, List.map_drop]
  exact cutV_nat (ns.map V.int) 12 20
def sp_law (K : PySem.W.Frag) : Sp := mkSp (α := Addr × List Int) (fun a => [.ref a.1]) (fun a H => SqL K H a.1 (a.2.map V.int) ∧ a.2.length ≤ 63) (fun _ _ v _ => v = .bl true)
theorem rdyF {P : Program} {w : World} {K : PySem.W.Frag} {mg : Str → Option Value} {base : Heap} {x : Str} {st : Stmt} {N ps : List Str} {k : Nat} {α : Type} {args : α → List V} {pre : α → Hp → Prop} {post : α → Hp → V → Hp → Prop} {fd : FuncData}
    (F : FnP K x x st (He.ga K x) fd) (S : FnScope N ps (defScope st)) (hl : ∀ a, (args a).length = ps.length)
    (body : ∀ (cdv : Value) (A : Around) (outer : List Env) (s : Shared) (H : Hp) (a : α) (Q : VK) (E : XK), Room k (A.deeper (envOfC x (defScope st) s.heap.objs.size (He.ga K x) cdv)) → pre a H → (∀ v H', post a H v H' → Q v H') →
      ∃ t, PSs (cxOf CX0 P w K mg base N x (defScope st) (He.ga K x) cdv A outer s H E).nox (defBody st) t ∧ t { nx := fun _ H' => Q .non H', rt := Q } (start N (args a)) H) : FnOk P w K mg base CX0 (k + 1) (He.ga K x) fd ps (mkSp args pre post) := by
  refine F.ok S (fun vs H Q E h => ?_) fun cdv A outer s H vs Q E hr h => ?_
  · obtain ⟨a, rfl, _⟩ := h
    exact hl a
  · obtain ⟨a, rfl, hp, q⟩ := h
    obtain ⟨t, h1, h2⟩ := body cdv A outer s H a Q E hr hp q
    exact ⟨t, h1.nox, h2⟩
theorem sc_law : FnScope ["_law_script", "_law_seed", "_law_elders", "_law_wood_here", "_law_cell", "_law_number", "_law_before", "_law_other", "_law_k", "_law_low", "_law_high", "_law_some", "_law_place_here", "_law_after", "_law_one", "_law_part_here"] ["_law_script"] (defScope s_law) := ⟨rfl, rfl, rfl, by decide +kernel, rfl, by decide +kernel, by decide +kernel⟩
theorem ok_law {P : Program} {w : World} {K : PySem.W.Frag} {mg : Str → Option Value} {base : Heap} (T : Top K mg) {fd : FuncData} (F : FnP K "law" "law" s_law (He.ga K "law") fd) (R__law_cell_at : Rdy P w K mg base "_law_cell_at" 1 ["_law_script", "_law_k"] (sp__law_cell_at K)) (R__law_mixed : Rdy P w K mg base "_law_mixed" 1 ["_law_cell", "_law_k"] (sp__law_mixed K)) (R__law_digits : Rdy P w K mg base "_law_digits" 2 ["_law_script", "_law_at", "_law_many"] (sp__law_digits K)) (R__law_wood : Rdy P w K mg base "_law_wood" 1 ["_law_digits_here"] (sp__law_wood K)) (R__law_large : Rdy P w K mg base "_law_large" 1 ["_law_elders", "_law_times", "_law_nested"] (sp__law_large K)) (R_Shaped_init : RdyI P w K mg base "Shaped" 2 ["self", "elders"] (sp_Shaped_init K)) (R_Shaped_pieces : RdyM P w K mg base "Shaped" "pieces" 1 ["self"] (sp_Shaped_pieces K)) (R__law_depth : Rdy P w K mg base "_law_depth" 1 ["_law_elders", "_law_k"] (sp__law_depth K)) (R__law_end : Rdy P w K mg base "_law_end" 1 ["_law_elders", "_law_k"] (sp__law_end K)) (R_Shaped_cut : RdyM P w K mg base "Shaped" "cut" 7 ["self", "k"] (sp_Shaped_cut K)) (R__law_without : Rdy P w K mg base "_law_without" 2 ["_law_elders", "_law_k"] (sp__law_without K)) (R__law_place : Rdy P w K mg base "_law_place" 3 ["_law_elders", "_law_k", "_law_place_here"] (sp__law_place K)) (R_Shaped_graft : RdyM P w K mg base "Shaped" "graft" 4 ["self", "k", "place", "elders"] (sp_Shaped_graft K)) (R__law_with : Rdy P w K mg base "_law_with" 3 ["_law_elders", "_law_k", "_law_place_here", "_law_wood_here"] (sp__law_with K)) (R__law_stay : Rdy P w K mg base "_law_stay" 1 ["_law_before", "_law_after", "_law_low", "_law_high", "_law_put_in"] (sp__law_stay K)) (R__law_row : Rdy P w K mg base "_law_row" 1 ["_law_elders"] (sp__law_row K)) (R__law_in_form : Rdy P w K mg base "_law_in_form" 1 ["_law_parts", "_law_row_here"] (sp__law_in_form K)) (R_Shaped_sums : RdyM P w K mg base "Shaped" "sums" 1 ["self"] (sp_Shaped_sums K)) (R__law_sums : Rdy P w K mg base "_law_sums" 1 ["_law_text"] (sp__law_sums K)) (R__law_knots : Rdy P w K mg base "_law_knots" 4 ["_law_wood_here", "_law_elders", "_law_at"] (sp__law_knots K)) : FnOk P w K mg base CX0 8 (He.ga K "law") fd ["_law_script"] (sp_law K) := by
  refine rdyF F sc_law (fun _ => rfl) fun cdv A outer s H a Q E hr hp hQ => ⟨_, (pss_cons (ps_set (i := 1) sc_law.nd rfl (Or.inl rfl) (pe_f R__law_mixed (hr.mono (by decide)) (pa_cons (pe_f R__law_cell_at (hr.mono (by decide)) (pa_cons (pv 0) (pa_cons pe_int pa_nil))) (pa_cons pe_int pa_nil))))
      (pss_cons (ps_set (i := 2) sc_law.nd rfl (Or.inr rfl) (pe_f R__law_wood (hr.mono (by decide)) (pa_cons (pe_f R__law_digits (hr.mono (by decide)) (pa_cons (pv 0) (pa_cons pe_int (pa_cons (pe_op (r := rAddI) op_add pe_int (pe_op (r := rModI) op_mod (pv 1) pe_int)) pa_nil)))) pa_nil)))
      (pss_cons (ps_set (i := 2) sc_law.nd rfl (Or.inr rfl) (pe_f R__law_large (hr.mono (by decide)) (pa_cons (pv 2) (pa_cons (pe_op (r := rAddI) op_add pe_int (pe_op (r := rModI) op_mod (pe_op (r := rDivI) op_fdiv (pv 1) pe_int) pe_int)) (pa_cons (pe_cmpR (r := rEq) op_eq (pe_op (r := rModI) op_mod (pe_op (r := rDivI) op_fdiv (pv 1) pe_int) pe_int) pe_int (nomark _)) pa_nil)))))
      (pss_cons (ps_set (i := 3) sc_law.nd rfl (Or.inl rfl) (pe_i R_Shaped_init (hr.mono (by decide)) (pa_cons (pe_callTy (r := cListOf K) call_list_of rfl T.b_list (by decide +kernel) (pa_cons (pv 2) pa_nil)) pa_nil)))
      (pss_cons (ps_for PassesOwn.never rfl (pi_list (pe_op op_cat (pe_slice sl_list (pv 0) (po_some pe_int) (po_some pe_int)) (pe_lst (pa_cons (pe_callB (r := cLenL K) call_len_seq rfl T.b_len (by decide +kernel) (pa_cons (pv 0) pa_nil)) pa_nil)))) (pg_name (i := 4) sc_law.nd rfl (Or.inl rfl)) (pss_cons (ps_set (i := 5) sc_law.nd rfl (Or.inr rfl) (pe_f R__law_mixed (hr.mono (by decide)) (pa_cons (pv 4) (pa_cons pe_int pa_nil))))
      (pss_cons (ps_set (i := 6) sc_law.nd rfl (Or.inl rfl) (pe_m0 R_Shaped_pieces (hr.mono (by decide)) (pv 3)))
      (pss_cons (ps_set (i := 7) sc_law.nd rfl (Or.inl rfl) (pe_f R__law_wood (hr.mono (by decide)) (pa_cons (pe_lc (own := [("_law_k", 8)]) (g := gName 8) (tt := tYes) rfl sc_law.nd (pi_range1 rfl T.b_range (pa_cons (pe_op (r := rModI) op_mod (pe_op (r := rDivI) op_fdiv (pv 5) pe_int) pe_int) pa_nil)) (blkOk_by (own := [("_law_k", 8)]) (N := ["_law_script", "_law_seed", "_law_elders", "_law_wood_here", "_law_cell", "_law_number", "_law_before", "_law_other", "_law_k", "_law_low", "_law_high", "_law_some", "_law_place_here", "_law_after", "_law_one", "_law_part_here"]) (sc := defScope s_law) (by decide +kernel)) (fun _ _ _ _ _ => pg_name (i := 8) sc_law.nd rfl (Or.inl rfl)) (fun _ _ _ _ _ => by exact pts_nil) (fun _ _ _ _ _ => by exact (pe_op (r := rModI) op_mod (pe_f R__law_mixed (hr.mono (by decide)) (pa_cons (pv 5) (pa_cons (pv 8) pa_nil))) pe_int))) pa_nil)))
      (pss_cons (ps_if (PW.pt (pw_and (pt_cmpR (r := rEq) op_eq (pe_op (r := rModI) op_mod (pv 5) pe_int) pe_int (nomark _)) (pw_and1 (pt_cmp (pc_nil (.inr ⟨rfl, rfl⟩) hr.units (pv 2)))))) (pss_cons (ps_set (i := 8) sc_law.nd rfl (Or.inr rfl) (pe_op (r := rModI) op_mod (pe_op (r := rDivI) op_fdiv (pv 5) pe_int) (pe_callB (r := cLenL K) call_len_seq rfl T.b_len (by decide +kernel) (pa_cons (pv 2) pa_nil))))
      (pss_cons (ps_set (i := 9) sc_law.nd rfl (Or.inl rfl) (pe_op (r := rSubI) op_sub (pe_op (r := rMulI) op_mul pe_int (pv 8)) (pe_f R__law_depth (hr.mono (by decide)) (pa_cons (pv 2) (pa_cons (pv 8) pa_nil)))))
      (pss_cons (ps_set (i := 10) sc_law.nd rfl (Or.inl rfl) (pe_op (r := rAddI) op_add (pv 9) (pe_op (r := rMulI) op_mul pe_int (pe_op (r := rSubI) op_sub (pe_f R__law_end (hr.mono (by decide)) (pa_cons (pv 2) (pa_cons (pv 8) pa_nil))) (pv 8)))))
      (pss_cons (ps_expr (pe_m R_Shaped_cut (hr.mono (by decide)) (pv 3) (pa_cons (pv 8) pa_nil)))
      (pss_cons (ps_set (i := 2) sc_law.nd rfl (Or.inr rfl) (pe_f R__law_without (hr.mono (by decide)) (pa_cons (pv 2) (pa_cons (pv 8) pa_nil))))
      (pss_one (ps_set (i := 7) sc_law.nd rfl (Or.inl rfl) (pe_lst pa_nil)))))))) (pss_cons (ps_set (i := 8) sc_law.nd rfl (Or.inr rfl) (pe_op (r := rSubI) op_sub (pe_op (r := rModI) op_mod (pe_op (r := rDivI) op_fdiv (pv 5) pe_int) (pe_op (r := rAddI) op_add (pe_callB (r := cLenL K) call_len_seq rfl T.b_len (by decide +kernel) (pa_cons (pv 2) pa_nil)) pe_int)) pe_int))
      (pss_cons (ps_setLc (i := 11) (own := [("_law_one", 14)]) (g := gName 14) rfl sc_law.nd rfl rfl (sw_true rfl rfl rfl (by decide +kernel)) (pi_range1 rfl T.b_range (pa_cons (pe_callB (r := cLenL K) call_len_seq rfl T.b_len (by decide +kernel) (pa_cons (pv 2) pa_nil)) pa_nil)) (blkOk_by (own := [("_law_one", 14)]) (N := ["_law_script", "_law_seed", "_law_elders", "_law_wood_here", "_law_cell", "_law_number", "_law_before", "_law_other", "_law_k", "_law_low", "_law_high", "_law_some", "_law_place_here", "_law_after", "_law_one", "_law_part_here"]) (sc := defScope s_law) (by decide +kernel)) (fun _ _ _ _ _ => pg_name (i := 14) sc_law.nd rfl (Or.inl rfl)) (fun _ _ _ _ _ => by exact (pts_one (pt_cmpR (r := rEq) op_eq (pe_ix (r := rIxL K) ix_list (pv 2) (pv 14) (fun _ _ => rfl)) (pv 8) (nomark _)))) (fun _ _ _ _ _ => by exact (pv 14)))
      (pss_cons (ps_set (i := 12) sc_law.nd rfl (Or.inl rfl) (pe_op (r := rModI) op_mod (pe_op (r := rDivI) op_fdiv (pv 5) pe_int) (pe_op (r := rAddI) op_add (pe_callB (r := cLenL K) call_len_seq rfl T.b_len (by decide +kernel) (pa_cons (pv 11) pa_nil)) pe_int)))
      (pss_cons (ps_set (i := 9) sc_law.nd rfl (Or.inl rfl) (pe_f R__law_place (hr.mono (by decide)) (pa_cons (pv 2) (pa_cons (pv 8) (pa_cons (pv 12) pa_nil)))))
      (pss_cons (ps_set (i := 10) sc_law.nd rfl (Or.inl rfl) (pv 9))
      (pss_cons (ps_expr (pe_m R_Shaped_graft (hr.mono (by decide)) (pv 3) (pa_cons (pe_pick (pv 8) pe_non (pe_callTy (r := cInt) call_int1 rfl T.b_int (by decide +kernel) (pa_cons (pe_cmpR (r := rLt) op_lt (pv 8) pe_int (nomark _)) pa_nil))) (pa_cons (pv 12) (pa_cons (pv 7) pa_nil)))))
      (pss_one (ps_set (i := 2) sc_law.nd rfl (Or.inr rfl) (pe_f R__law_with (hr.mono (by decide)) (pa_cons (pv 2) (pa_cons (pv 8) (pa_cons (pv 12) (pa_cons (pv 7) pa_nil))))))))))))))
      (pss_cons (ps_set (i := 13) sc_law.nd rfl (Or.inl rfl) (pe_m0 R_Shaped_pieces (hr.mono (by decide)) (pv 3)))
      (pss_cons (ps_if (PW.pt (pw_or (pt_not (pt_val (pe_f R__law_stay (hr.mono (by decide)) (pa_cons (pv 6) (pa_cons (pv 13) (pa_cons (pv 9) (pa_cons (pv 10) (pa_cons (pe_op (r := rMulI) op_mul pe_int (pe_callB (r := cLenL K) call_len_seq rfl T.b_len (by decide +kernel) (pa_cons (pv 7) pa_nil))) pa_nil)))))))) (pw_or1 (pt_not (pt_val (pe_f R__law_in_form (hr.mono (by decide)) (pa_cons (pv 13) (pa_cons (pe_f R__law_row (hr.mono (by decide)) (pa_cons (pv 2) pa_nil)) pa_nil)))))))) (pss_one (ps_ret pe_bl)) pss_nil)
      (pss_one (ps_if (PW.pt (pw_or (pt_cmpR (op_neD hr.units) (pe_m0 R_Shaped_sums (hr.mono (by decide)) (pv 3)) (pe_lc (own := [("_law_part_here", 15)]) (g := gName 15) (tt := tYes) rfl sc_law.nd (pi_list (pv 13)) (blkOk_by (own := [("_law_part_here", 15)]) (N := ["_law_script", "_law_seed", "_law_elders", "_law_wood_here", "_law_cell", "_law_number", "_law_before", "_law_other", "_law_k", "_law_low", "_law_high", "_law_some", "_law_place_here", "_law_after", "_law_one", "_law_part_here"]) (sc := defScope s_law) (by decide +kernel)) (fun _ _ _ _ _ => pg_name (i := 15) sc_law.nd rfl (Or.inl rfl)) (fun _ _ _ _ _ => by exact pts_nil) (fun _ _ _ _ _ => by exact (pe_f R__law_sums (hr.mono (by decide)) (pa_cons (pv 15) pa_nil)))) (nomark _)) (pw_or1 (pt_not (pt_val (pe_f R__law_knots (hr.mono (by decide)) (pa_cons (pv 3) (pa_cons (pv 2) (pa_cons (pe_op (r := rDivI) op_fdiv (pv 9) pe_int) pa_nil))))))))) (pss_one (ps_ret pe_bl)) pss_nil)))))))))
      (pss_one (ps_ret pe_bl))))))), ?_⟩
  obtain ⟨sc, ns⟩ := a
  obtain ⟨hsc, hnl⟩ := hp
  simp only at hsc hnl
  walk_at "go"
  walk_at "rd"
  refine ⟨(sc, ns, 0), rfl, hsc, ?_⟩
  rintro v H' ⟨eH, c0, rfl⟩
  subst eH
  walk_at "rd"
  refine ⟨(c0, 1), rfl, ⟨by show (0 : Int) ≤ 1; decide, by show (1 : Int) ≤ 1000; decide⟩, ?_⟩
  rintro v H1 ⟨eH, rfl⟩
  subst eH
  have hs0 := mixN_nn c0 1
  simp only
  generalize mixN c0 1 = seed at hs0 ⊢
  walk_at "rd"
  obtain ⟨m1, hm1⟩ : ∃ m1 : Nat, 1 + seed % 60 = (m1 : Int) := ⟨(1 + seed % 60).toNat, by omega⟩
  have hm1b : m1 ≤ 60 := by omega
  rw [hm1]
  refine ⟨(sc, ns, 2, m1), rfl, ⟨hsc, by show m1 ≤ 100; omega⟩, ?_⟩
  rintro v H1 ⟨ds, hds, dp, rfl, n1, s1, h1⟩
  simp only at hds
  walk_at "rd"
  refine ⟨(dp, ds), rfl, ⟨h1, by show ds.length ≤ 1000; omega⟩, ?_⟩
  rintro v H2 ⟨es0, r0, hl0, hw0, ep0, rfl, n2, s2, h2⟩
  simp only at hl0
  walk_at "rd"
  obtain ⟨m2, hm2⟩ : ∃ m2 : Nat, 1 + seed / 60 % 12 = (m2 : Int) := ⟨(1 + seed / 60 % 12).toNat, by omega⟩
  have hm2b : m2 ≤ 12 := by omega
  rw [hm2]
  refine ⟨(ep0, es0, m2, decide (seed / 720 % 2 = 1)), rfl, ⟨h2, ⟨r0, hw0⟩, by show es0.length ≤ 100; omega, by show m2 ≤ 100; omega⟩, ?_⟩
  rintro v H3 ⟨es, r, hl, hw, ep, rfl, n3, s3, h3⟩
  simp only at hl
  have hes : es.length ≤ 720 := by
    rw [hl]
    exact Nat.le_trans (Nat.mul_le_mul hm2b (show es0.length ≤ 60 by omega)) (by decide)
  walk_at "rd"
  refine go_listOf (SqL.of h3) fun e2 H4 n4 s4 h4 => ?_
  walk_at "rd"
  refine go_mkK fun p pdx H5 n5 s5 h5 => ?_
  refine ⟨(p, e2, es, r), rfl, ⟨⟨pdx, h5⟩, s5 _ _ h4, hw, by show es.length ≤ 4000; omega⟩, ?_⟩
  rintro v H6 ⟨rfl, k6, al, nal, hSh⟩
  refine ⟨rfl, ?_⟩
  simp only at hSh k6
  have s46 : Same H4 H6 := Keep.made n5 s5 k6
  have hsc6 := sql_same hsc ((((s1.trans s2).trans s3).trans s4).trans s46)
  have hep6 := s46 _ _ (s4 _ _ h3)
  have epal : ep ≠ al := (ne_new nal (s5 _ _ (s4 _ _ h3))).symm
  walk_at "rd"
  refine go_slL hsc6 fun l1 H7 n7 s7 h7 => ?_
  rw [cut_1220] at h7
  walk_at "rd"
  refine go_lenLq (sql_same hsc6 s7) ?_
  walk_at "rd"
  refine go_newL (by walk_at "sz") fun l2 H8 n8 s8 h8 => ?_
  refine go_cat (s8 _ _ h7) h8 (by rw [List.length_map, List.length_take]; exact Nat.le_trans (m := 9) (by show _ + 1 ≤ 9; omega) (by decide)) fun lp H9 n9 s9 h9 => ?_
  have s69 := (s7.trans s8).trans s9
  obtain ⟨cells, hcells, hcl⟩ : ∃ cells : List Int, H9 lp = some (LI cells) ∧ cells.length ≤ 9 := by
    refine ⟨(ns.drop 12).take 8 ++ [((ns.map V.int).length : Int)], ?_, ?_⟩
    · rw [h9]
      show _ = some (HO.lst (((ns.drop 12).take 8 ++ [((ns.map V.int).length : Int)]).map V.int))
      rw [List.map_append]
      rfl
    · simp
      omega
  have hSh9 := hSh.mono s69
  obtain ⟨sdx, spl, stl, sts, sas, hs9⟩ := id hSh9
  have hs6 := hSh.mono (Same.refl H6)
  obtain ⟨sdx6, spl6, stl6, sts6, sas6, hs6⟩ := id hs6
  have s68 := s7.trans s8
  have lpp : lp ≠ p := ne_new n9 (s68 _ _ hs6.ob)
  have lpal : lp ≠ al := ne_new n9 (s68 _ _ hs6.pa)
  refine go_listK (SqL.of hcells) ?_
  refine loop_list (as := cells) (f := V.int) (fun pre σ' H' => pre.length ≤ 9 ∧ ∃ ep es r ps, LwSt K p al lp cells pre.length H' ep es r ps ∧ ∃ x4 x5 x6 x7 x8 x9 x10 x11 x12 x13 x14 x15, σ' = [some (.ref sc), some (.int seed), some (.ref ep), some (.ref p), x4, x5, x6, x7, x8, x9, x10, x11, x12, x13, x14, x15]) ?_ (fun pre post σ' H' _ ⟨_, ep, es, r, ps, hL, _⟩ => SqL.of hL.lc) ?_ ?_
  · refine ⟨Nat.zero_le _, ep, es, r, cuts r, ⟨hcells, s69 _ _ hep6, epal, hw, hSh9, cuts_flat r, cuts_form r, by simpa using hes⟩, none, none, none, none, none, none, none, none, none, none, none, none, rfl⟩
  · rintro pre cell post σ' H' hpre ⟨hpl, ep, es, r, ps, hL, x4, x5, x6, x7, x8, x9, x10, x11, x12, x13, x14, x15, rfl⟩
    obtain ⟨hok, hel, hrl, heo⟩ := hL.ok (by omega)
    obtain ⟨hlc, hep, hne, hwd, hsh, hfl, hfm, hszz⟩ := hL
    have hpl2 : pre.length < 9 := by
      have : cells.length = pre.length + (post.length + 1) := by rw [hpre]; simp
      omega
    obtain ⟨dx, pl, tl, ts, as, h⟩ := id hsh
    generalize hi : pre.length = i at *
    walk_at "rd"
    refine ⟨(cell, 3), rfl, ⟨by show (0 : Int) ≤ 3; decide, by show (3 : Int) ≤ 1000; decide⟩, ?_⟩
    rintro v H1 ⟨eH, rfl⟩
    subst eH
    have hm0 := mixN_nn cell 3
    simp only
    generalize mixN cell 3 = m at hm0 ⊢
    walk_at "rd"
    refine go_mtK h.ob (sh_no (by decide +kernel) (by decide +kernel) (by decide +kernel)) ?_
    walk_at "rd"
    refine ⟨⟨p, al, ps, i, r⟩, rfl, ⟨hsh, hok⟩, ?_⟩
    rintro v H2 ⟨bp, rfl, nb, s2, hb⟩
    simp only at hb
    walk_at "rd"
    refine go_rng1i (by omega) (by omega) ?_
    obtain ⟨cnt, hcnt⟩ : ∃ cnt : Nat, m / 8 % 61 = (cnt : Int) := ⟨(m / 8 % 61).toNat, by omega⟩
    have hcntb : cnt ≤ 60 := by omega
    rw [hcnt, Int.toNat_natCast]
    refine lc_F (as := List.range cnt) (f := fun (j : Nat) => .int (0 + (j : Int))) (fun _ => true) (fun (j : Nat) => .int (mixN m (j : Int) % 64)) wk_rng (fun _ _ => trivial) (by rw [List.length_range]; exact Nat.lt_of_le_of_lt hcntb (by decide)) (fun _ => rfl) (fun _ _ _ _ => evT_yes) (fun j hj _ H3 s' Q' q' => ?_) (fun dp H3 n3 s3 h3 => ?_)
    · have hjl := List.mem_range.mp hj
      rw [Int.zero_add]
      walk_at "rd"
      refine ⟨(m, (j : Int)), rfl, ⟨by show (0 : Int) ≤ (j : Int); omega, by show (j : Int) ≤ 1000; omega⟩, ?_⟩
      rintro v H4 ⟨eH, rfl⟩
      subst eH
      walk_at "rd"
      exact q' _ (Same.refl _)
    rw [flatF] at h3
    have e3 : ((List.range cnt).map fun (j : Nat) => V.int (mixN m (j : Int) % 64)) = ((List.range cnt).map fun (j : Nat) => mixN m (j : Int) % 64).map V.int := by
      rw [List.map_map]
      rfl
    rw [e3] at h3
    walk_at "rd"
    refine ⟨(dp, _), rfl, ⟨h3, by rw [List.length_map, List.length_range]; omega⟩, ?_⟩
    rintro v H4 ⟨os, t, hol, hwo, oq, rfl, no, s4, ho⟩
    simp only at hol
    rw [List.length_map, List.length_range] at hol
    obtain ⟨wo1, wo2⟩ := wood_len hwo
    have s04 := (s2.trans s3).trans s4
    have h4 := h.mono s04
    have hsh4 := hsh.mono s04
    have hb4 := s4 _ _ (s3 _ _ hb)
    have hep4 := s04 _ _ hep
    have hlc4 := s04 _ _ hlc
    have bpp : bp ≠ p := ne_new nb h.ob
    have bpal : bp ≠ al := ne_new nb h.pa
    have h3' := h.mono (s2.trans s3)
    have oqp : oq ≠ p := ne_new no h3'.ob
    have oqal : oq ≠ al := ne_new no h3'.pa
    have epp : ep ≠ p := fun e => by
      rw [e, h.ob] at hep
      cases hep
    refine go_gname ?_
    with_reducible refine go_join2 (fun σ' H' => ∃ ep es' oq os low high t x y, Deed K p al lp cells i bp r ps H' ep es' oq os low high t x y ∧ ∃ x8 x11 x12, σ' = [some (.ref sc), some (.int seed), some (.ref ep), some (.ref p), some (.int cell), some (.int m), some (.ref bp), some (.ref oq), x8, some (.int (low : Nat)), some (.int (high : Nat)), x11, x12, x13, x14, x15]) (fun D2 hnx2 _ _ _ => ?_) ?_
    · walk_at "rd"
      refine ifB_dec (fun q1 => ?_) (fun q1 => ?_)
      · walk_at "rd"
        refine go_nilN hep4 (plain_ints es) ?_
        walk_at "rd"
        refine ifB_of (fun q2 => ?_) (fun q2 => ?_)
        · skip
          have hepos : 0 < es.length := by
            cases es with
            | nil => simp at q2
            | cons _ _ => simp
          walk_at "rd"
          rw [List.length_map]
          refine go_mod (by omega) ?_
          have g1 := Int.emod_nonneg (m / 512) (show (es.length : Int) ≠ 0 by omega)
          have g2 := Int.emod_lt_of_pos (m / 512) (show (0 : Int) < (es.length : Int) by omega)
          generalize m / 512 % (es.length : Int) = k0 at g1 g2 ⊢
          obtain ⟨k, rfl⟩ : ∃ k : Nat, k0 = (k : Int) := ⟨k0.toNat, by omega⟩
          have hkl : k < es.length := by omega
          obtain ⟨A', B, C, e, hk2, hn, hbb, hbc⟩ := knot_split hwd.1 (k := k) (by omega)
          have hKt : Kt r A' B C := ⟨e, hbb⟩
          have hAl := len_hgt hn
          have hBl := bal_len hbb
          have hle : lend es (k : Nat) (k + 1) = ones A' + 1 + ones B := by
            have hka := knot_at (C := C) hn hbb
            rw [← e, hk2] at hka
            rw [hk2]
            exact lend_eq hwd.2 hka
          walk_at "rd"
          refine ⟨(ep, es, dep r 0, k), rfl, ⟨hep4, hwd.2, hkl⟩, ?_⟩
          rintro v H5 ⟨eH, d, hd, rfl⟩
          subst eH
          simp only at hd
          have hdA : (d : Int) = (hgt A' 0 : Nat) := by
            have q := dep_at (A := A') (R := B ++ false :: C)
            rw [← e, hk2, hd] at q
            rw [Option.some.inj q]
          walk_at "rd"
          rw [show (2 : Int) * (k : Int) - (d : Int) = ((A'.length : Nat) : Int) by omega]
          refine ⟨(ep, es, k), rfl, hep4, ?_⟩
          rintro v H5 ⟨eH, rfl⟩
          subst eH
          simp only
          rw [hle]
          walk_at "rd"
          rw [show ((A'.length : Nat) : Int) + 2 * (((ones A' + 1 + ones B : Nat) : Int) - (k : Int)) = ((A'.length + 1 + B.length + 1 : Nat) : Int) by omega]
          refine go_mtK h4.ob (sh_no (by decide +kernel) (by decide +kernel) (by decide +kernel)) ?_
          walk_at "rd"
          refine ⟨(⟨p, al, ps, i, r⟩, A', B, C), by show [V.ref p, V.int (k : Nat)] = [V.ref p, V.int (ones A' : Nat)]; rw [hk2], ⟨⟨hsh4, hok⟩, by show i ≤ 1000; omega, hKt⟩, ?_⟩
          rintro v H6 ⟨k6, x, y, hAB, hS6⟩
          simp only at k6 hAB hS6
          walk_at "rd"
          refine ⟨(ep, es, k), rfl, ⟨k6 _ _ epp hne hep4, by show es.length ≤ 4000; omega⟩, ?_⟩
          rintro v H7 ⟨ep', rfl, nep, s7, hep7⟩
          simp only at hep7
          rw [hle] at hep7
          walk_at "rd"
          refine go_newL (by walk_at "sz") fun oq2 H8 n8 s8 h8 => ?_
          walk_at "rd"
          obtain ⟨dx6, pl6, tl6, ts6, as6, h6⟩ := id hS6
          have hwc := wood_cut (C := C) (by rw [← e]; exact hwd) hn hbb hbc
          have erow : r.take A'.length ++ [] ++ r.drop (A'.length + 1 + B.length + 1) = A' ++ C := by
            rw [e]
            have e2 : A' ++ true :: (B ++ false :: C) = (A' ++ true :: (B ++ [false])) ++ C := by simp
            have e3 : A'.length + 1 + B.length + 1 = (A' ++ true :: (B ++ [false])).length := by simp; omega
            rw [List.take_left, List.append_nil]
            rw [e2, e3, List.drop_left]
          have hKl := hKt.len
          have hfl2 : ps.flatten.length = r.length := by rw [hfl]
          have s78 := s7.trans s8
          refine hnx2 _ _ ⟨ep', wout es (ones A') (ones A' + 1 + ones B), oq2, [], A'.length, A'.length + 1 + B.length + 1, [], x, y, ⟨⟨s78 _ _ (k6 _ _ lpp lpal hlc4), ?_, ne_new nep h6.pa, ?_, hS6.mono s78, ?_, ?_, ?_⟩, s78 _ _ (k6 _ _ bpp bpal hb4), h8, rfl, hAB, by omega, by omega⟩, _, _, _, rfl⟩
          · rw [s8 _ _ hep7, hk2]
          · rw [erow]
            exact hwc
          · rw [put_flat hAB (by omega) (by omega), hfl]
          · exact put_form hAB hfm (by omega) (by omega)
          · have := wout_len es (ones A') (ones A' + 1 + ones B) (by omega)
            omega
        · skip
          walk_at "rd"
          rw [List.length_map]
          refine go_mod (by omega) ?_
          have g1 := Int.emod_nonneg (m / 512) (show ((es.length : Int) + 1) ≠ 0 by omega)
          have g2 := Int.emod_lt_of_pos (m / 512) (show (0 : Int) < (es.length : Int) + 1 by omega)
          generalize m / 512 % ((es.length : Int) + 1) = k0 at g1 g2 ⊢
          walk_at "rd"
          rw [List.length_map]
          refine go_rng1 (by omega) ?_
          generalize hk : k0 - 1 = k
          have hk1 : -1 ≤ k := by omega
          have hk2 : k < es.length := by omega
          refine lc_F (as := List.range es.length) (f := fun (j : Nat) => .int (0 + (j : Int))) (fun j => decide (es[j]? = some k)) (fun (j : Nat) => .int (j : Int)) wk_rng (fun _ _ => trivial) (by rw [List.length_range]; exact Nat.lt_of_le_of_lt hel (by decide)) (fun _ => rfl) (fun j hj H3 s' Q' q' => ?_) (fun j hj _ H3 s' Q' q' => ?_) (fun L H5 n5 s5 h5 => ?_)
          · have hjl := List.mem_range.mp hj
            rw [Int.zero_add]
            rw [List.getElem?_eq_getElem hjl, some_dec] at q'
            walk_at "rd"
            refine go_ixL (s' _ _ hep4) (at_i j rfl (map_at (List.getElem?_eq_getElem hjl))) ?_
            walk_at "rd"
            exact q' _ (Same.refl _)
          · rw [Int.zero_add]
            walk_at "rd"
            exact q' _ (Same.refl _)
          rw [lsome_map] at h5
          walk_at "rd"
          rw [List.length_map]
          refine go_mod (by omega) ?_
          have g3 := Int.emod_nonneg (m / 64) (show (((lsome es k).length : Int) + 1) ≠ 0 by omega)
          have g4 := Int.emod_lt_of_pos (m / 64) (show (0 : Int) < ((lsome es k).length : Int) + 1 by omega)
          generalize m / 64 % (((lsome es k).length : Int) + 1) = pi at g3 g4 ⊢
          obtain ⟨pn, rfl⟩ : ∃ pn : Nat, pi = (pn : Int) := ⟨pi.toNat, by omega⟩
          have hpn : pn ≤ (lsome es k).length := by omega
          obtain ⟨o, P, R, G⟩ := graft_at hwd hk1 hk2 hpn
          walk_at "rd"
          have hep5 := s5 _ _ hep4
          refine ⟨(ep, es, dep r 0, k, pn), rfl, ⟨hep5, hwd.2, by show es.length ≤ 4000; omega, hk2⟩, ?_⟩
          rintro v H6 ⟨s6, z, rfl, hz⟩
          have ez := G.z z hz
          subst ez
          have s46 := s5.trans s6
          have h6 := h4.mono s46
          walk_at "rd"
          refine go_mtK h6.ob (sh_no (by decide +kernel) (by decide +kernel) (by decide +kernel)) ?_
          walk_at "rd"
          refine ⟨decide (k < 0), rfl, ?_⟩
          have ekv : (if decide (k < 0) = true then V.non else V.int k) = kv o := by
            rw [G.kv]
            by_cases q : k < 0 <;> simp [q]
          rw [ekv]
          walk_at "rd"
          have hkl : (kids r o).length = (lsome es k).length := by rw [G.kd, List.length_map]
          refine ⟨⟨⟨p, al, ps, i, r⟩, o, pn, oq, os, t, P, R⟩, rfl, ⟨⟨hsh4.mono s46, hok⟩, by show i ≤ 1000; omega, G.kt, s46 _ _ ho, hwo, by show ones r + os.length ≤ 4000; omega, G.e, by show pn ≤ (kids r o).length; omega, fun q => ?_, fun q => ?_⟩, ?_⟩
          · have q' : pn < (kids r o).length := q
            obtain ⟨B, C, b1, b2, b3⟩ := G.md (by omega)
            refine ⟨B, C, b1, b2, ?_⟩
            show (kids r o)[pn]? = _
            rw [G.kd]
            exact b3
          · have q' : pn = (kids r o).length := q
            have f := G.fn (by omega)
            cases o with
            | none => exact f
            | some w => exact f
          rintro v H7 ⟨k7, x, y, hAB, hS7⟩
          simp only at k7 hAB hS7
          have hep7 := k7 _ _ epp hne (s46 _ _ hep4)
          have hoq7 := k7 _ _ oqp oqal (s46 _ _ ho)
          walk_at "rd"
          refine ⟨(ep, es, k, pn, oq, os), rfl, ⟨hep7, by show es.length ≤ 4000; omega, hoq7, by show os.length ≤ 4000; omega⟩, ?_⟩
          rintro v H8 ⟨ep', rfl, nep, s8, hep8⟩
          simp only at hep8
          obtain ⟨dx7, pl7, tl7, ts7, as7, h7⟩ := id hS7
          have hwi := wood_ins (R := R) (by rw [← G.e]; exact hwd) hwo G.ns
          have erow : r.take P.length ++ t ++ r.drop P.length = P ++ t ++ R := by rw [G.e]; simp
          have hPl : P.length ≤ r.length := by rw [G.e]; simp
          have hfl2 : ps.flatten.length = r.length := by rw [hfl]
          refine hnx2 _ _ ⟨ep', wins es (ones P) k os, oq, os, P.length, P.length, t, x, y, ⟨⟨s8 _ _ (k7 _ _ lpp lpal (s46 _ _ hlc4)), ?_, ne_new nep h7.pa, ?_, hS7.mono s8, ?_, ?_, ?_⟩, s8 _ _ (k7 _ _ bpp bpal (s46 _ _ hb4)), s8 _ _ hoq7, by omega, hAB, Nat.le_refl _, hPl⟩, _, _, _, rfl⟩
          · rw [hep8, G.sp]
          · rw [erow]
            exact hwi
          · rw [put_flat hAB (Nat.le_refl _) (by omega), hfl]
          · exact put_form hAB hfm (Nat.le_refl _) (by omega)
          · have := (wood_len hwi).1
            rw [ones_app, ones_app] at this
            have h9 : ones r = ones P + ones R := by rw [G.e, ones_app]
            omega
      · skip
        walk_at "rd"
        rw [List.length_map]
        refine go_mod (by omega) ?_
        have g1 := Int.emod_nonneg (m / 512) (show ((es.length : Int) + 1) ≠ 0 by omega)
        have g2 := Int.emod_lt_of_pos (m / 512) (show (0 : Int) < (es.length : Int) + 1 by omega)
        generalize m / 512 % ((es.length : Int) + 1) = k0 at g1 g2 ⊢
        walk_at "rd"
        rw [List.length_map]
        refine go_rng1 (by omega) ?_
        generalize hk : k0 - 1 = k
        have hk1 : -1 ≤ k := by omega
        have hk2 : k < es.length := by omega
        refine lc_F (as := List.range es.length) (f := fun (j : Nat) => .int (0 + (j : Int))) (fun j => decide (es[j]? = some k)) (fun (j : Nat) => .int (j : Int)) wk_rng (fun _ _ => trivial) (by rw [List.length_range]; exact Nat.lt_of_le_of_lt hel (by decide)) (fun _ => rfl) (fun j hj H3 s' Q' q' => ?_) (fun j hj _ H3 s' Q' q' => ?_) (fun L H5 n5 s5 h5 => ?_)
        · have hjl := List.mem_range.mp hj
          rw [Int.zero_add]
          rw [List.getElem?_eq_getElem hjl, some_dec] at q'
          walk_at "rd"
          refine go_ixL (s' _ _ hep4) (at_i j rfl (map_at (List.getElem?_eq_getElem hjl))) ?_
          walk_at "rd"
          exact q' _ (Same.refl _)
        · rw [Int.zero_add]
          walk_at "rd"
          exact q' _ (Same.refl _)
        rw [lsome_map] at h5
        walk_at "rd"
        rw [List.length_map]
        refine go_mod (by omega) ?_
        have g3 := Int.emod_nonneg (m / 64) (show (((lsome es k).length : Int) + 1) ≠ 0 by omega)
        have g4 := Int.emod_lt_of_pos (m / 64) (show (0 : Int) < ((lsome es k).length : Int) + 1 by omega)
        generalize m / 64 % (((lsome es k).length : Int) + 1) = pi at g3 g4 ⊢
        obtain ⟨pn, rfl⟩ : ∃ pn : Nat, pi = (pn : Int) := ⟨pi.toNat, by omega⟩
        have hpn : pn ≤ (lsome es k).length := by omega
        obtain ⟨o, P, R, G⟩ := graft_at hwd hk1 hk2 hpn
        walk_at "rd"
        have hep5 := s5 _ _ hep4
        refine ⟨(ep, es, dep r 0, k, pn), rfl, ⟨hep5, hwd.2, by show es.length ≤ 4000; omega, hk2⟩, ?_⟩
        rintro v H6 ⟨s6, z, rfl, hz⟩
        have ez := G.z z hz
        subst ez
        have s46 := s5.trans s6
        have h6 := h4.mono s46
        walk_at "rd"
        refine go_mtK h6.ob (sh_no (by decide +kernel) (by decide +kernel) (by decide +kernel)) ?_
        walk_at "rd"
        refine ⟨decide (k < 0), rfl, ?_⟩
        have ekv : (if decide (k < 0) = true then V.non else V.int k) = kv o := by
          rw [G.kv]
          by_cases q : k < 0 <;> simp [q]
        rw [ekv]
        walk_at "rd"
        have hkl : (kids r o).length = (lsome es k).length := by rw [G.kd, List.length_map]
        refine ⟨⟨⟨p, al, ps, i, r⟩, o, pn, oq, os, t, P, R⟩, rfl, ⟨⟨hsh4.mono s46, hok⟩, by show i ≤ 1000; omega, G.kt, s46 _ _ ho, hwo, by show ones r + os.length ≤ 4000; omega, G.e, by show pn ≤ (kids r o).length; omega, fun q => ?_, fun q => ?_⟩, ?_⟩
        · have q' : pn < (kids r o).length := q
          obtain ⟨B, C, b1, b2, b3⟩ := G.md (by omega)
          refine ⟨B, C, b1, b2, ?_⟩
          show (kids r o)[pn]? = _
          rw [G.kd]
          exact b3
        · have q' : pn = (kids r o).length := q
          have f := G.fn (by omega)
          cases o with
          | none => exact f
          | some w => exact f
        rintro v H7 ⟨k7, x, y, hAB, hS7⟩
        simp only at k7 hAB hS7
        have hep7 := k7 _ _ epp hne (s46 _ _ hep4)
        have hoq7 := k7 _ _ oqp oqal (s46 _ _ ho)
        walk_at "rd"
        refine ⟨(ep, es, k, pn, oq, os), rfl, ⟨hep7, by show es.length ≤ 4000; omega, hoq7, by show os.length ≤ 4000; omega⟩, ?_⟩
        rintro v H8 ⟨ep', rfl, nep, s8, hep8⟩
        simp only at hep8
        obtain ⟨dx7, pl7, tl7, ts7, as7, h7⟩ := id hS7
        have hwi := wood_ins (R := R) (by rw [← G.e]; exact hwd) hwo G.ns
        have erow : r.take P.length ++ t ++ r.drop P.length = P ++ t ++ R := by rw [G.e]; simp
        have hPl : P.length ≤ r.length := by rw [G.e]; simp
        have hfl2 : ps.flatten.length = r.length := by rw [hfl]
        refine hnx2 _ _ ⟨ep', wins es (ones P) k os, oq, os, P.length, P.length, t, x, y, ⟨⟨s8 _ _ (k7 _ _ lpp lpal (s46 _ _ hlc4)), ?_, ne_new nep h7.pa, ?_, hS7.mono s8, ?_, ?_, ?_⟩, s8 _ _ (k7 _ _ bpp bpal (s46 _ _ hb4)), s8 _ _ hoq7, by omega, hAB, Nat.le_refl _, hPl⟩, _, _, _, rfl⟩
        · rw [hep8, G.sp]
        · rw [erow]
          exact hwi
        · rw [put_flat hAB (Nat.le_refl _) (by omega), hfl]
        · exact put_form hAB hfm (Nat.le_refl _) (by omega)
        · have := (wood_len hwi).1
          rw [ones_app, ones_app] at this
          have h9 : ones r = ones P + ones R := by rw [G.e, ones_app]
          omega
    · rintro σ' H5 ⟨ep5, es5, oq5, os5, low, high, t5, x, y, hD, x8', x11', x12', rfl⟩
      obtain ⟨⟨lc5, he5, ne5, wd5, sh5, fl5, fm5, sz5⟩, hb5, ho5, tl5, hAB, hlh, hhl⟩ := hD
      obtain ⟨ok5, el5, rl5, eo5⟩ := (LwSt.mk lc5 he5 ne5 wd5 sh5 fl5 fm5 sz5).ok (by omega)
      obtain ⟨dx5, pl5, tl5', ts5, as5, h5⟩ := id sh5
      have hfl2 : ps.flatten.length = r.length := by rw [hfl]
      generalize hr5 : r.take low ++ t5 ++ r.drop high = r5 at *
      generalize hps5 : putAB ps low high t5 x y = ps5 at *
      walk_at "rd"
      refine go_mtK h5.ob (sh_no (by decide +kernel) (by decide +kernel) (by decide +kernel)) ?_
      walk_at "rd"
      refine ⟨⟨p, al, ps5, i + 1, r5⟩, rfl, ⟨sh5, ok5⟩, ?_⟩
      rintro v H6 ⟨ap, rfl, na, s6, ha⟩
      simp only at ha
      have ho6 := s6 _ _ ho5
      walk_at "rd"
      rw [List.length_map, show (2 : Int) * (os5.length : Int) = ((t5.length : Nat) : Int) by omega]
      refine ⟨⟨bp, ps, ap, low, high, t5, x, y⟩, rfl, ⟨s6 _ _ hb5, by rw [ha, ← hps5], hAB, hfm, hlh, by show high ≤ ps.flatten.length; omega, by show ps.length ≤ 8000; exact hok.many⟩, ?_⟩
      rintro v H7 ⟨s7, rfl⟩
      walk_at "rd"
      have s57 := s6.trans s7
      refine ⟨(ep5, es5, r5), rfl, ⟨s57 _ _ he5, wd5, by show es5.length ≤ 4000; omega⟩, ?_⟩
      rintro v H8 ⟨s8, hv⟩
      replace hv : v = .str (S r5) := hv
      subst hv
      walk_at "rd"
      refine ⟨(ap, ps5, r5), rfl, ⟨s8 _ _ (s7 _ _ ha), fl5, ok5.sz, fm5⟩, ?_⟩
      rintro v H9 ⟨s9, rfl⟩
      walk_at "rd"
      have s59 := (s57.trans s8).trans s9
      have ha9 := s9 _ _ (s8 _ _ (s7 _ _ ha))
      refine go_mtK (h5.mono s59).ob (sh_no (by decide +kernel) (by decide +kernel) (by decide +kernel)) ?_
      walk_at "rd"
      refine ⟨⟨p, al, ps5, i + 1, r5⟩, rfl, ⟨sh5.mono s59, ok5⟩, ?_⟩
      rintro v H10 ⟨su, us, rfl, nsu, s10, hsu, husu⟩
      simp only at hsu husu
      have ha10 := s10 _ _ ha9
      walk_at "rd"
      refine go_listK (SqL.of ha10) ?_
      refine lc_U (as := ps5) (f := vr) sumsV wk_list (fun H' s' => SqL.of (s' _ _ ha10)) (Nat.lt_of_le_of_lt ok5.many (by decide)) (fun _ => rfl) (fun z hz H' s' Q' q' => ?_) (fun L us2 H11 n11 s11 h11 u11 => ?_)
      · have hzl := (fm5.sz z hz).2
        walk_at "rd"
        refine ⟨z, rfl, by show z.length ≤ 100000; omega, ?_⟩
        rintro v H2 ⟨tt, rfl, nt, st, hte⟩
        exact q' tt H2 nt st hte
      refine go_neTups (s11 _ _ hsu) h11 (husu.mono fun _ _ q => s11 _ _ q) u11 ?_
      walk_at "rd"
      have s5y := (s59.trans s10).trans s11
      refine ⟨⟨⟨p, al, ps5, i + 1, r5⟩, ep5, es5, (low : Int) / 2⟩, rfl, ⟨⟨sh5.mono s5y, ok5⟩, s5y _ _ he5, wd5⟩, ?_⟩
      rintro v H12 ⟨s12, rfl⟩
      walk_at "rd"
      have s5z := s5y.trans s12
      have epl : (pre ++ [cell]).length = i + 1 := by rw [List.length_append, hi]; rfl
      refine ⟨by rw [epl]; omega, ep5, es5, r5, ps5, ?_, _, _, _, _, _, _, _, _, _, _, _, _, rfl⟩
      rw [epl]
      exact ⟨s5z _ _ lc5, s5z _ _ he5, ne5, wd5, sh5.mono s5z, fl5, fm5, sz5⟩
  · rintro σ' H' ⟨_, ep, es, r, ps, hL, x4, x5, x6, x7, x8, x9, x10, x11, x12, x13, x14, x15, rfl⟩
    walk_at "rd"
    exact hQ _ _ rfl

end
theorem law_ok {P : Program} {w : World} {K : PySem.W.Frag} {mg : Str → Option Value} {base : Heap} (T : Top K mg) {fd : FuncData} (F : FnP K "law" "law" s_law (He.ga K "law") fd) : FnOk P w K mg base CX0 8 (He.ga K "law") fd ["_law_script"] (sp_law K) := by
  have R__law_cell_at : Rdy P w K mg base "_law_cell_at" 1 ["_law_script", "_law_k"] (sp__law_cell_at K) := ok__law_cell_at T
  have R__law_mixed : Rdy P w K mg base "_law_mixed" 1 ["_law_cell", "_law_k"] (sp__law_mixed K) := ok__law_mixed T
  have R__law_digits : Rdy P w K mg base "_law_digits" 2 ["_law_script", "_law_at", "_law_many"] (sp__law_digits K) := ok__law_digits T R__law_cell_at R__law_mixed
  have R__law_wood : Rdy P w K mg base "_law_wood" 1 ["_law_digits_here"] (sp__law_wood K) := ok__law_wood T
  have R__law_large : Rdy P w K mg base "_law_large" 1 ["_law_elders", "_law_times", "_law_nested"] (sp__law_large K) := ok__law_large T
  have R_look_at : Rdy P w K mg base "look_at" 1 ["elders"] (sp_look_at K) := ok_look_at T
  have R_row_of : Rdy P w K mg base "row_of" 1 ["elders"] (sp_row_of K) := ok_row_of T
  have R_cut_evenly : Rdy P w K mg base "cut_evenly" 1 ["text"] (sp_cut_evenly K) := ok_cut_evenly T
  have R_sums_of : Rdy P w K mg base "sums_of" 1 ["text"] (sp_sums_of K) := ok_sums_of T
  have R_Shaped_init : RdyI P w K mg base "Shaped" 2 ["self", "elders"] (sp_Shaped_init K) := ok_Shaped_init T R_look_at R_row_of R_cut_evenly R_sums_of
  have R_Shaped_pieces : RdyM P w K mg base "Shaped" "pieces" 1 ["self"] (sp_Shaped_pieces K) := ok_Shaped_pieces T
  have R__law_depth : Rdy P w K mg base "_law_depth" 1 ["_law_elders", "_law_k"] (sp__law_depth K) := ok__law_depth T
  have R__law_end : Rdy P w K mg base "_law_end" 1 ["_law_elders", "_law_k"] (sp__law_end K) := ok__law_end T
  have R_is_number : Rdy P w K mg base "is_number" 1 ["thing"] (sp_is_number K) := ok_is_number T
  have R_Shaped_many_knots : RdyM P w K mg base "Shaped" "many_knots" 1 ["self"] (sp_Shaped_many_knots K) := ok_Shaped_many_knots T
  have R_Shaped_look_at_knot : RdyM P w K mg base "Shaped" "look_at_knot" 2 ["self", "k"] (sp_Shaped_look_at_knot K) := ok_Shaped_look_at_knot T R_is_number R_Shaped_many_knots
  have R_Shaped_spot_of : RdyM P w K mg base "Shaped" "spot_of" 1 ["self", "k"] (sp_Shaped_spot_of K) := ok_Shaped_spot_of T
  have R_Shaped_closing_from : RdyM P w K mg base "Shaped" "closing_from" 1 ["self", "at", "place", "height"] (sp_Shaped_closing_from K) := ok_Shaped_closing_from T
  have R_Shaped_row_place : RdyM P w K mg base "Shaped" "row_place" 1 ["self", "at", "place"] (sp_Shaped_row_place K) := ok_Shaped_row_place T
  have R_Shaped_ends_of : RdyM P w K mg base "Shaped" "ends_of" 2 ["self", "k"] (sp_Shaped_ends_of K) := ok_Shaped_ends_of T R_Shaped_spot_of R_Shaped_closing_from R_Shaped_row_place
  have R_Shaped_row : RdyM P w K mg base "Shaped" "row" 1 ["self"] (sp_Shaped_row K) := ok_Shaped_row T
  have R_put_for : Rdy P w K mg base "put_for" 2 ["pieces", "low", "high", "text"] (sp_put_for K) := ok_put_for T R_cut_evenly
  have R_Shaped_shape : RdyM P w K mg base "Shaped" "shape" 2 ["self", "parts"] (sp_Shaped_shape K) := ok_Shaped_shape T R_sums_of
  have R_ask_row : Rdy P w K mg base "ask_row" 1 ["text"] (sp_ask_row K) := ok_ask_row T
  have R_words_of : Rdy P w K mg base "words_of" 1 ["text"] (sp_words_of K) := ok_words_of T
  have R_Bits_init : RdyI P w K mg base "Bits" 2 ["self", "text"] (sp_Bits_init K) := ok_Bits_init T R_words_of
  have R_Bits_words : RdyM P w K mg base "Bits" "words" 1 ["self"] (sp_Bits_words K) := ok_Bits_words T
  have R_Bits_size : RdyM P w K mg base "Bits" "size" 1 ["self"] (sp_Bits_size K) := ok_Bits_size T
  have R_ones_in : Rdy P w K mg base "ones_in" 1 ["word"] (sp_ones_in K) := ok_ones_in T
  have R_Counts_init : RdyI P w K mg base "Counts" 2 ["self", "bits"] (sp_Counts_init K) := ok_Counts_init T R_Bits_words R_Bits_size R_ones_in
  have R_table_of : Rdy P w K mg base "table_of" 1 ["text"] (sp_table_of K) := ok_table_of T
  have R_Pairs_init : RdyI P w K mg base "Pairs" 4 ["self", "text"] (sp_Pairs_init K) := ok_Pairs_init T R_ask_row R_Bits_init R_Bits_words R_Counts_init R_table_of
  have R_is_amid : Rdy P w K mg base "is_amid" 1 ["thing", "low", "high"] (sp_is_amid K) := ok_is_amid T
  have R_Bits_need : RdyM P w K mg base "Bits" "need" 2 ["self", "place", "most"] (sp_Bits_need K) := ok_Bits_need T R_is_amid
  have R_Bits_at : RdyM P w K mg base "Bits" "at" 1 ["self", "place"] (sp_Bits_at K) := ok_Bits_at T
  have R_Bits_stretch : RdyM P w K mg base "Bits" "stretch" 3 ["self", "low", "high"] (sp_Bits_stretch K) := ok_Bits_stretch T R_Bits_need R_Bits_at
  have R_Bits_text : RdyM P w K mg base "Bits" "text" 4 ["self"] (sp_Bits_text K) := ok_Bits_text T R_Bits_stretch
  have R_Pairs_text : RdyM P w K mg base "Pairs" "text" 5 ["self"] (sp_Pairs_text K) := ok_Pairs_text T R_Bits_text
  have R_elders_of : Rdy P w K mg base "elders_of" 6 ["text"] (sp_elders_of K) := ok_elders_of T R_Pairs_init R_Pairs_text
  have R_Shaped_cut : RdyM P w K mg base "Shaped" "cut" 7 ["self", "k"] (sp_Shaped_cut K) := ok_Shaped_cut T R_Shaped_look_at_knot R_Shaped_ends_of R_Shaped_row R_put_for R_Shaped_shape R_elders_of
  have R__law_without : Rdy P w K mg base "_law_without" 2 ["_law_elders", "_law_k"] (sp__law_without K) := ok__law_without T R__law_end
  have R__law_spot : Rdy P w K mg base "_law_spot" 2 ["_law_elders", "_law_k", "_law_place_here"] (sp__law_spot K) := ok__law_spot T R__law_end
  have R__law_place : Rdy P w K mg base "_law_place" 3 ["_law_elders", "_law_k", "_law_place_here"] (sp__law_place K) := ok__law_place T R__law_spot R__law_depth
  have R_tops_in : Rdy P w K mg base "tops_in" 1 ["text", "first"] (sp_tops_in K) := ok_tops_in T
  have R_Shaped_children : RdyM P w K mg base "Shaped" "children" 3 ["self", "k"] (sp_Shaped_children K) := ok_Shaped_children T R_Shaped_row R_tops_in R_Shaped_ends_of
  have R_Shaped_graft : RdyM P w K mg base "Shaped" "graft" 4 ["self", "k", "place", "elders"] (sp_Shaped_graft K) := ok_Shaped_graft T R_Shaped_look_at_knot R_Shaped_children R_is_number R_look_at R_row_of R_Shaped_many_knots R_Shaped_ends_of R_put_for R_Shaped_shape
  have R__law_with : Rdy P w K mg base "_law_with" 3 ["_law_elders", "_law_k", "_law_place_here", "_law_wood_here"] (sp__law_with K) := ok__law_with T R__law_spot
  have R__law_stay : Rdy P w K mg base "_law_stay" 1 ["_law_before", "_law_after", "_law_low", "_law_high", "_law_put_in"] (sp__law_stay K) := ok__law_stay T
  have R__law_row : Rdy P w K mg base "_law_row" 1 ["_law_elders"] (sp__law_row K) := ok__law_row T
  have R__law_in_form : Rdy P w K mg base "_law_in_form" 1 ["_law_parts", "_law_row_here"] (sp__law_in_form K) := ok__law_in_form T
  have R_Shaped_sums : RdyM P w K mg base "Shaped" "sums" 1 ["self"] (sp_Shaped_sums K) := ok_Shaped_sums T
  have R__law_sums : Rdy P w K mg base "_law_sums" 1 ["_law_text"] (sp__law_sums K) := ok__law_sums T
  have R_Shaped_knot_at : RdyM P w K mg base "Shaped" "knot_at" 1 ["self", "at", "place"] (sp_Shaped_knot_at K) := ok_Shaped_knot_at T
  have R_Shaped_back_to : RdyM P w K mg base "Shaped" "back_to" 2 ["self", "at", "place", "height", "goal"] (sp_Shaped_back_to K) := ok_Shaped_back_to T R_Shaped_knot_at
  have R_Shaped_elder : RdyM P w K mg base "Shaped" "elder" 3 ["self", "k"] (sp_Shaped_elder K) := ok_Shaped_elder T R_Shaped_look_at_knot R_Shaped_spot_of R_Shaped_back_to
  have R_Shaped_beneath : RdyM P w K mg base "Shaped" "beneath" 3 ["self", "k"] (sp_Shaped_beneath K) := ok_Shaped_beneath T R_Shaped_look_at_knot R_Shaped_ends_of
  have R_Shaped_depth : RdyM P w K mg base "Shaped" "depth" 3 ["self", "k"] (sp_Shaped_depth K) := ok_Shaped_depth T R_Shaped_look_at_knot R_Shaped_spot_of
  have R__law_knots : Rdy P w K mg base "_law_knots" 4 ["_law_wood_here", "_law_elders", "_law_at"] (sp__law_knots K) := ok__law_knots T R_Shaped_elder R_Shaped_beneath R__law_end R_Shaped_depth R__law_depth
  exact ok_law T F R__law_cell_at R__law_mixed R__law_digits R__law_wood R__law_large R_Shaped_init R_Shaped_pieces R__law_depth R__law_end R_Shaped_cut R__law_without R__law_place R_Shaped_graft R__law_with R__law_stay R__law_row R__law_in_form R_Shaped_sums R__law_sums R__law_knots
theorem facts {P : Program} {w : World} {K : PySem.W.Frag} {h : Heap} {mg : Str → Option Value} {f : Addr} (X : K.In h) (G : h.Ns mainGlobals mg) (hfa : mg ("law" : Str) = some (.ref f)) (c : He.SaysD fa fn K) :
    ∃ fd : FuncData, (∀ (s : Shared) (v : Value), BindsTo s fd ⟨[v], []⟩ [("_law_script", v)]) ∧ ∀ base : Heap, K.In base → base.Ns mainGlobals mg → FnOk P w K mg base CX0 8 f fd ["_law_script"] (sp_law K) := by
  have T : Top K mg := ⟨⟨h, X, G⟩, c⟩
  obtain ⟨fd, F⟩ := T.f_law
  have e := hfa.symm.trans T.g_law
  cases e
  have b := FunD.bindsA (ps := ["_law_script"]) F fun _ _ _ _ _ _ us hl => match us, hl with | [_], _ => rfl
  exact ⟨fd, fun s v => b s [v] rfl, fun base _ _ => law_ok T F⟩

end K76
open PySem PySem.W PySem.Calls PyProof.Rows
theorem PySem.Challenge.cw_tightwood_k76_pieces_that_stay_holds : PySem.Challenge.rw_tightwood_k76_pieces_that_stay.Holds := by
  w_on; o_law
  refine HandSHeadRun.head_any (r := K76.RowK) (q := view K76.RowK.prog [70]) (H := K76.hookK) (ob := K76.obK) (M := 12000) (loose := K76.lo) (d := HandSHeadRun.topDef K76.RowK.prog 70) (kwd := []) K76.obK_eq
    (by kernel_rfl) (fun s => by kernel_rfl) K76.runK (by kernel_rfl) (by kernel_rfl) (by kernel_rfl) (by rfl) (by first | assumption | decide +kernel) (by decide +kernel) ⟨rfl, rfl, rfl, rfl, rfl, by decide +kernel⟩ ?hw ?hc
  case hw => w_witness2
  case hc =>
    refine L2.walk_ofE (l := PySem.Challenge.rw_tightwood_k76_pieces_that_stay) (n := 63) (k := 8) (x := "_law_script") (CX := L2.CX0) rfl (by decide) (by kernel_rfl) ⟨rfl, by decide, by decide⟩ ?F (fun _ _ _ _ z => z)
    intro w mg fa0 h Y G hmg0
    obtain ⟨K, KX, c⟩ := Y
    have hmg : mg ("law" : PySem.Str) = some (.ref fa0) := by
      have e : (HandSHeadRun.topDef K76.RowK.prog 70).name = ("law" : PySem.Str) := by kernel_rfl
      rw [← e]
      exact hmg0
    obtain ⟨fd, hb, hF⟩ := K76.facts (P := (PySem.Challenge.rw_tightwood_k76_pieces_that_stay).prog) (w := w) KX G hmg c
    exact ⟨K, fd, K76.sp_law K, KX, hb, fun H a ns hl _ hS => ⟨(a, ns), rfl, ⟨hS, hl⟩, fun _ _ q => q⟩, hF⟩
