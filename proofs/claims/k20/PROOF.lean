import PyProof.Rows.All
import Wide.All
import OpenK.AllK
import Wide.FinOn
import KE.KStateDown
import Lean
import HandS.ForMost
import HandS.WordsExc
import HandS.Defaults
import HandS.Head0
import HandS.Head1
import HandS.Head2
import HandS.HeadEnd
import HandS.HeadHook1
import HandS.HeadHook2
import HandS.HeadHook3
import HandS.HeadHook4
import HandS.HeadWalk
import HandS.TupAny
import HandS.TupMul
import HandS.IsInst
import HandS.CallLocal
import HandS.Deep
import HandS.NoneIn
import HandS.More
import HandS.Walk
import HandS.Zip
import KE.GoesEnum
import HandS.Ends
import PyProof.ListMulRoad
import PyProof.FactsAll.tuple_2
import HandS.Dict
import PyProof.ReprRoads
import HandS.FStrTup
import HandS.Text
import HandS.Replace
import PySem.Challenge.RW_kernelpapers_k20_whole_one_end
set_option Elab.async false
set_option linter.all false
set_option maxRecDepth 100000
set_option maxHeartbeats 0
namespace Kp
open PySem PySem.Spec L2
/-! ### the text by places -/
def top (i : Nat) : Stmt := PySem.Challenge.pw_kernelpapers_k20_whole_one_end.main.body.getD i (.Pass ⟨0, 0, 0, 0⟩)
abbrev s_is_whole : Stmt := top 19
abbrev s_is_number : Stmt := top 20
abbrev s_is_name : Stmt := top 21
abbrev s_has_form : Stmt := top 22
abbrev s_is_term : Stmt := top 23
abbrev s_is_spot : Stmt := top 24
abbrev s_need_term : Stmt := top 25
abbrev s_inner : Stmt := top 26
abbrev s_with_parts : Stmt := top 27
abbrev s_binds : Stmt := top 28
abbrev s_gone_to : Stmt := top 29
abbrev s_spots_in : Stmt := top 30
abbrev s_put_at : Stmt := top 31
abbrev s_raise_in : Stmt := top 32
abbrev s_give_in : Stmt := top 33
abbrev s_apply_to : Stmt := top 34
abbrev s_open_up : Stmt := top 35
abbrev s_are_terms : Stmt := top 41
abbrev s_is_thing_row : Stmt := top 42
abbrev s_is_mean_row : Stmt := top 43
abbrev s_is_hold_row : Stmt := top 44
abbrev s_is_row : Stmt := top 46
abbrev s_places_from : Stmt := top 47
abbrev s_told_by : Stmt := top 48
abbrev s_own_spots : Stmt := top 49
abbrev s_between_in : Stmt := top 50
abbrev s_good_spots : Stmt := top 51
abbrev s_ungrown_in : Stmt := top 52
abbrev s_own_args : Stmt := top 53
abbrev s_need_rows : Stmt := top 56
abbrev s_need_ground : Stmt := top 58
abbrev s_row_of : Stmt := top 61
abbrev s_under_ahead : Stmt := top 62
abbrev s_eaten_own : Stmt := top 63
abbrev s_eaten : Stmt := top 64
abbrev s_gone : Stmt := top 65
abbrev s_steps_in : Stmt := top 66
abbrev s_steps : Stmt := top 67
abbrev s_step_at : Stmt := top 68
abbrev s_stepped : Stmt := top 69
abbrev s_next_of : Stmt := top 70
abbrev s_first_step : Stmt := top 71
abbrev s_gone_way : Stmt := top 72
abbrev s_need_most : Stmt := top 73
abbrev s_worked : Stmt := top 74
abbrev s_law_cell : Stmt := top 76
abbrev s_law_purse : Stmt := top 77
abbrev s_law_take : Stmt := top 78
abbrev s_law_names : Stmt := top 79
abbrev s_law_app : Stmt := top 80
abbrev s_law_world : Stmt := top 81
abbrev s_law_number : Stmt := top 82
abbrev s_law_raised : Stmt := top 83
abbrev s_law_saying : Stmt := top 84
abbrev s_law_height : Stmt := top 85
abbrev s_law_pair : Stmt := top 86
abbrev s_law_made : Stmt := top 87
abbrev s_law_made_thing : Stmt := top 88
abbrev s_law_larger : Stmt := top 89
abbrev s_law_end : Stmt := top 90
abbrev s_law : Stmt := top 91
abbrev s_Ground_init : Stmt := inClass (top 57) 0
abbrev s_Ground_has : Stmt := inClass (top 57) 3
abbrev s_Ground_told : Stmt := inClass (top 57) 4
abbrev lawIx : Nat := 91
/-! ### facts -/
def d_is_whole : He.DefD := ⟨("is_whole", none), "is_whole", "is_whole", defArgs s_is_whole, defBody s_is_whole, defScope s_is_whole, [], []⟩
def d_is_number : He.DefD := ⟨("is_number", none), "is_number", "is_number", defArgs s_is_number, defBody s_is_number, defScope s_is_number, [], []⟩
def d_is_name : He.DefD := ⟨("is_name", none), "is_name", "is_name", defArgs s_is_name, defBody s_is_name, defScope s_is_name, [], []⟩
def d_has_form : He.DefD := ⟨("has_form", none), "has_form", "has_form", defArgs s_has_form, defBody s_has_form, defScope s_has_form, [], []⟩
def d_is_term : He.DefD := ⟨("is_term", none), "is_term", "is_term", defArgs s_is_term, defBody s_is_term, defScope s_is_term, [], []⟩
def d_is_spot : He.DefD := ⟨("is_spot", none), "is_spot", "is_spot", defArgs s_is_spot, defBody s_is_spot, defScope s_is_spot, [], []⟩
def d_need_term : He.DefD := ⟨("need_term", none), "need_term", "need_term", defArgs s_need_term, defBody s_need_term, defScope s_need_term, [], []⟩
def d_inner : He.DefD := ⟨("inner", none), "inner", "inner", defArgs s_inner, defBody s_inner, defScope s_inner, [], []⟩
def d_with_parts : He.DefD := ⟨("with_parts", none), "with_parts", "with_parts", defArgs s_with_parts, defBody s_with_parts, defScope s_with_parts, [], []⟩
def d_binds : He.DefD := ⟨("binds", none), "binds", "binds", defArgs s_binds, defBody s_binds, defScope s_binds, [], []⟩
def d_gone_to : He.DefD := ⟨("gone_to", none), "gone_to", "gone_to", defArgs s_gone_to, defBody s_gone_to, defScope s_gone_to, [], []⟩
def d_spots_in : He.DefD := ⟨("spots_in", none), "spots_in", "spots_in", defArgs s_spots_in, defBody s_spots_in, defScope s_spots_in, [], []⟩
def d_put_at : He.DefD := ⟨("put_at", none), "put_at", "put_at", defArgs s_put_at, defBody s_put_at, defScope s_put_at, [], []⟩
def d_raise_in : He.DefD := ⟨("raise_in", none), "raise_in", "raise_in", defArgs s_raise_in, defBody s_raise_in, defScope s_raise_in, [], []⟩
def d_give_in : He.DefD := ⟨("give_in", none), "give_in", "give_in", defArgs s_give_in, defBody s_give_in, defScope s_give_in, [.int 0], []⟩
def d_apply_to : He.DefD := ⟨("apply_to", none), "apply_to", "apply_to", defArgs s_apply_to, defBody s_apply_to, defScope s_apply_to, [], []⟩
def d_open_up : He.DefD := ⟨("open_up", none), "open_up", "open_up", defArgs s_open_up, defBody s_open_up, defScope s_open_up, [], []⟩
def d_are_terms : He.DefD := ⟨("are_terms", none), "are_terms", "are_terms", defArgs s_are_terms, defBody s_are_terms, defScope s_are_terms, [], []⟩
def d_is_thing_row : He.DefD := ⟨("is_thing_row", none), "is_thing_row", "is_thing_row", defArgs s_is_thing_row, defBody s_is_thing_row, defScope s_is_thing_row, [], []⟩
def d_is_mean_row : He.DefD := ⟨("is_mean_row", none), "is_mean_row", "is_mean_row", defArgs s_is_mean_row, defBody s_is_mean_row, defScope s_is_mean_row, [], []⟩
def d_is_hold_row : He.DefD := ⟨("is_hold_row", none), "is_hold_row", "is_hold_row", defArgs s_is_hold_row, defBody s_is_hold_row, defScope s_is_hold_row, [], []⟩
def d_is_row : He.DefD := ⟨("is_row", none), "is_row", "is_row", defArgs s_is_row, defBody s_is_row, defScope s_is_row, [], []⟩
def d_places_from : He.DefD := ⟨("places_from", none), "places_from", "places_from", defArgs s_places_from, defBody s_places_from, defScope s_places_from, [], []⟩
def d_told_by : He.DefD := ⟨("told_by", none), "told_by", "told_by", defArgs s_told_by, defBody s_told_by, defScope s_told_by, [], []⟩
def d_own_spots : He.DefD := ⟨("own_spots", none), "own_spots", "own_spots", defArgs s_own_spots, defBody s_own_spots, defScope s_own_spots, [], []⟩
def d_between_in : He.DefD := ⟨("between_in", none), "between_in", "between_in", defArgs s_between_in, defBody s_between_in, defScope s_between_in, [], []⟩
def d_good_spots : He.DefD := ⟨("good_spots", none), "good_spots", "good_spots", defArgs s_good_spots, defBody s_good_spots, defScope s_good_spots, [], []⟩
def d_ungrown_in : He.DefD := ⟨("ungrown_in", none), "ungrown_in", "ungrown_in", defArgs s_ungrown_in, defBody s_ungrown_in, defScope s_ungrown_in, [], []⟩
def d_own_args : He.DefD := ⟨("own_args", none), "own_args", "own_args", defArgs s_own_args, defBody s_own_args, defScope s_own_args, [], []⟩
def d_need_rows : He.DefD := ⟨("need_rows", none), "need_rows", "need_rows", defArgs s_need_rows, defBody s_need_rows, defScope s_need_rows, [], []⟩
def d_need_ground : He.DefD := ⟨("need_ground", none), "need_ground", "need_ground", defArgs s_need_ground, defBody s_need_ground, defScope s_need_ground, [], []⟩
def d_row_of : He.DefD := ⟨("row_of", none), "row_of", "row_of", defArgs s_row_of, defBody s_row_of, defScope s_row_of, [], []⟩
def d_under_ahead : He.DefD := ⟨("under_ahead", none), "under_ahead", "under_ahead", defArgs s_under_ahead, defBody s_under_ahead, defScope s_under_ahead, [], []⟩
def d_eaten_own : He.DefD := ⟨("eaten_own", none), "eaten_own", "eaten_own", defArgs s_eaten_own, defBody s_eaten_own, defScope s_eaten_own, [], []⟩
def d_eaten : He.DefD := ⟨("eaten", none), "eaten", "eaten", defArgs s_eaten, defBody s_eaten, defScope s_eaten, [], []⟩
def d_gone : He.DefD := ⟨("gone", none), "gone", "gone", defArgs s_gone, defBody s_gone, defScope s_gone, [], []⟩
def d_steps_in : He.DefD := ⟨("steps_in", none), "steps_in", "steps_in", defArgs s_steps_in, defBody s_steps_in, defScope s_steps_in, [], []⟩
def d_steps : He.DefD := ⟨("steps", none), "steps", "steps", defArgs s_steps, defBody s_steps, defScope s_steps, [], []⟩
def d_step_at : He.DefD := ⟨("step_at", none), "step_at", "step_at", defArgs s_step_at, defBody s_step_at, defScope s_step_at, [], []⟩
def d_stepped : He.DefD := ⟨("stepped", none), "stepped", "stepped", defArgs s_stepped, defBody s_stepped, defScope s_stepped, [], []⟩
def d_next_of : He.DefD := ⟨("next_of", none), "next_of", "next_of", defArgs s_next_of, defBody s_next_of, defScope s_next_of, [], []⟩
def d_first_step : He.DefD := ⟨("first_step", none), "first_step", "first_step", defArgs s_first_step, defBody s_first_step, defScope s_first_step, [], []⟩
def d_gone_way : He.DefD := ⟨("gone_way", none), "gone_way", "gone_way", defArgs s_gone_way, defBody s_gone_way, defScope s_gone_way, [], []⟩
def d_need_most : He.DefD := ⟨("need_most", none), "need_most", "need_most", defArgs s_need_most, defBody s_need_most, defScope s_need_most, [], []⟩
def d_worked : He.DefD := ⟨("worked", none), "worked", "worked", defArgs s_worked, defBody s_worked, defScope s_worked, [.int 3000], []⟩
def d_law_cell : He.DefD := ⟨("_law_cell", none), "_law_cell", "_law_cell", defArgs s_law_cell, defBody s_law_cell, defScope s_law_cell, [], []⟩
def d_law_purse : He.DefD := ⟨("_law_purse", none), "_law_purse", "_law_purse", defArgs s_law_purse, defBody s_law_purse, defScope s_law_purse, [], []⟩
def d_law_take : He.DefD := ⟨("_law_take", none), "_law_take", "_law_take", defArgs s_law_take, defBody s_law_take, defScope s_law_take, [], []⟩
def d_law_names : He.DefD := ⟨("_law_names", none), "_law_names", "_law_names", defArgs s_law_names, defBody s_law_names, defScope s_law_names, [], []⟩
def d_law_app : He.DefD := ⟨("_law_app", none), "_law_app", "_law_app", defArgs s_law_app, defBody s_law_app, defScope s_law_app, [], []⟩
def d_law_world : He.DefD := ⟨("_law_world", none), "_law_world", "_law_world", defArgs s_law_world, defBody s_law_world, defScope s_law_world, [], []⟩
def d_law_number : He.DefD := ⟨("_law_number", none), "_law_number", "_law_number", defArgs s_law_number, defBody s_law_number, defScope s_law_number, [], []⟩
def d_law_raised : He.DefD := ⟨("_law_raised", none), "_law_raised", "_law_raised", defArgs s_law_raised, defBody s_law_raised, defScope s_law_raised, [], []⟩
def d_law_saying : He.DefD := ⟨("_law_saying", none), "_law_saying", "_law_saying", defArgs s_law_saying, defBody s_law_saying, defScope s_law_saying, [], []⟩
def d_law_height : He.DefD := ⟨("_law_height", none), "_law_height", "_law_height", defArgs s_law_height, defBody s_law_height, defScope s_law_height, [], []⟩
def d_law_pair : He.DefD := ⟨("_law_pair", none), "_law_pair", "_law_pair", defArgs s_law_pair, defBody s_law_pair, defScope s_law_pair, [], []⟩
def d_law_made : He.DefD := ⟨("_law_made", none), "_law_made", "_law_made", defArgs s_law_made, defBody s_law_made, defScope s_law_made, [], []⟩
def d_law_made_thing : He.DefD := ⟨("_law_made_thing", none), "_law_made_thing", "_law_made_thing", defArgs s_law_made_thing, defBody s_law_made_thing, defScope s_law_made_thing, [], []⟩
def d_law_larger : He.DefD := ⟨("_law_larger", none), "_law_larger", "_law_larger", defArgs s_law_larger, defBody s_law_larger, defScope s_law_larger, [], []⟩
def d_law_end : He.DefD := ⟨("_law_end", none), "_law_end", "_law_end", defArgs s_law_end, defBody s_law_end, defScope s_law_end, [], []⟩
def d_law : He.DefD := ⟨("law", none), "law", "law", defArgs s_law, defBody s_law, defScope s_law, [], []⟩
def d_Ground_init : He.DefD := ⟨("Ground", some "__init__"), "__init__", "Ground.__init__", defArgs s_Ground_init, defBody s_Ground_init, defScope s_Ground_init, [.non], []⟩
def d_Ground_has : He.DefD := ⟨("Ground", some "has"), "has", "Ground.has", defArgs s_Ground_has, defBody s_Ground_has, defScope s_Ground_has, [], []⟩
def d_Ground_told : He.DefD := ⟨("Ground", some "told"), "told", "Ground.told", defArgs s_Ground_told, defBody s_Ground_told, defScope s_Ground_told, [], []⟩
def fn : List He.DefD := [d_is_whole, d_is_number, d_is_name, d_has_form, d_is_term, d_is_spot, d_need_term, d_inner, d_with_parts, d_binds, d_gone_to, d_spots_in, d_put_at, d_raise_in, d_give_in, d_apply_to, d_open_up, d_are_terms, d_is_thing_row, d_is_mean_row, d_is_hold_row, d_is_row, d_places_from, d_told_by, d_own_spots, d_between_in, d_good_spots, d_ungrown_in, d_own_args, d_need_rows, d_need_ground, d_row_of, d_under_ahead, d_eaten_own, d_eaten, d_gone, d_steps_in, d_steps, d_step_at, d_stepped, d_next_of, d_first_step, d_gone_way, d_need_most, d_worked, d_law_cell, d_law_purse, d_law_take, d_law_names, d_law_app, d_law_world, d_law_number, d_law_raised, d_law_saying, d_law_height, d_law_pair, d_law_made, d_law_made_thing, d_law_larger, d_law_end, d_law, d_Ground_init, d_Ground_has, d_Ground_told]
def fa : List He.Fa := [.glo "is_whole", .glo "is_number", .glo "is_name", .glo "has_form", .glo "is_term", .glo "is_spot", .glo "need_term", .glo "inner", .glo "with_parts", .glo "binds", .glo "gone_to", .glo "spots_in", .glo "put_at", .glo "raise_in", .glo "give_in", .glo "apply_to", .glo "open_up", .glo "are_terms", .glo "is_thing_row", .glo "is_mean_row", .glo "is_hold_row", .glo "is_row", .glo "places_from", .glo "told_by", .glo "own_spots", .glo "between_in", .glo "good_spots", .glo "ungrown_in", .glo "own_args", .glo "need_rows", .glo "need_ground", .glo "row_of", .glo "under_ahead", .glo "eaten_own", .glo "eaten", .glo "gone", .glo "steps_in", .glo "steps", .glo "step_at", .glo "stepped", .glo "next_of", .glo "first_step", .glo "gone_way", .glo "need_most", .glo "worked", .glo "_law_cell", .glo "_law_purse", .glo "_law_take", .glo "_law_names", .glo "_law_app", .glo "_law_world", .glo "_law_number", .glo "_law_raised", .glo "_law_saying", .glo "_law_height", .glo "_law_pair", .glo "_law_made", .glo "_law_made_thing", .glo "_law_larger", .glo "_law_end", .glo "law", .glo "FORMS", .glo "ROWS", .glo "KEPT", .glo "BINDERS", .glo "HEADS", .glo "Ground", .free "isinstance", .free "int", .free "bool", .free "str", .free "tuple", .free "list", .free "len", .free "all", .free "zip", .free "enumerate", .free "range", .free "dict", .free "max", .free "min", .free "repr", .int "MOST_KIND" 5, .int "MOST_BOUNDS" 3, .int "MOST_MAKERS" 5, .int "MOST_ARGS" 4, .int "MOST_ROWS" 24, .int "MOST_STEPS" 3000, .str "SMALL" "abcdefghijklmnopqrstuvwxyz", .cls "Ground", .noat "Ground" "kept_rows", .noat "Ground" "kept_by", .meth "Ground" "has", .meth "Ground" "told", .mkr "Ground", .keep "Ground", .keep "is_thing_row", .keep "is_mean_row", .keep "is_hold_row"]
def ts : List He.Tab := [(fun K => He.ga K "FORMS", ["at", "kind", "all", "fun", "app", "name", "thing", "maker", "eater", "same", "self", "put"]), (fun K => He.ga K "ROWS", ["thing", "mean", "hold"])]
def kept : List Str := ["all", "fun", "same", "self", "put"]
def formsV : List (Str × He.Dv) := [("at", .str "n"), ("kind", .str "h"), ("all", .str "tt"), ("fun", .str "tt"), ("app", .str "tt"), ("name", .str "w"), ("thing", .str "w"), ("maker", .str "wn"), ("eater", .str "wh"), ("same", .str "ttt"), ("self", .str "tt"), ("put", .str "ttt")]
def rowsV : List (Str × He.Dv) := [("thing", .glo "is_thing_row"), ("mean", .glo "is_mean_row"), ("hold", .glo "is_hold_row")]
def insB (K : PySem.W.Frag) : Bool := decide (PySem.W.findIn K (.ref (He.ga K "Ground")) "__class__" = some (some (.builtin "object.__class__"))) && (decide (PySem.W.specialIn K (.builtin "object.__class__") "__get__" = some (some (.builtin "getset_descriptor.__get__"))) &&
  (decide (PySem.W.takesIn K (.builtin "object.__class__") = some true) && (decide (PySem.W.mroIn K (He.ga K "Ground") (.type "object") = some true) && decide (PySem.W.kitOne K (.ref (He.ga K "Ground")) (.ref (He.ga K "Ground")) = some true))))
def ex (K : PySem.W.Frag) : Bool := He.tupB K "KEPT" [.str "all", .str "fun", .str "same", .str "self", .str "put"] && (He.tupB K "BINDERS" [.str "all", .str "fun"] && (He.tupB K "HEADS" [.str "thing", .str "maker", .str "eater"] &&
  (He.valsB K (He.ga K "FORMS") formsV && (He.valsB K (He.ga K "ROWS") rowsV && insB K))))
def loose0 : List Str := ["_wall", "PaperError", "NotThere", "NoTerm", "NoSpot", "NoNumber", "NoGround", "NoRow", "Doubled", "NoStep", "Tired", "NoThing", "SMALL", "KEPT", "MOST_KIND", "FORMS"]
def loose1 : List Str := ["BINDERS", "is_whole", "is_number", "is_name", "has_form", "is_term", "is_spot", "need_term", "inner", "with_parts", "binds", "gone_to", "spots_in", "put_at", "raise_in", "give_in"]
def loose2 : List Str := ["apply_to", "open_up", "MOST_BOUNDS", "MOST_MAKERS", "MOST_ARGS", "HEADS", "are_terms", "is_thing_row", "is_mean_row", "is_hold_row", "ROWS", "is_row", "places_from", "told_by", "own_spots", "between_in"]
def loose3 : List Str := ["good_spots", "ungrown_in", "own_args", "MOST_ROWS", "need_rows", "Ground", "need_ground", "MOST_STEPS", "row_of", "under_ahead", "eaten_own", "eaten", "gone", "steps_in", "steps", "step_at"]
def loose4 : List Str := ["stepped", "next_of", "first_step", "gone_way", "need_most", "worked", "_law_cell", "_law_purse", "_law_take", "_law_names", "_law_app", "_law_world", "_law_number", "_law_raised", "_law_saying", "_law_height"]
def loose5 : List Str := ["_law_pair", "_law_made", "_law_made_thing", "_law_larger", "_law_end"]
def loose : List Str := loose0 ++ loose1 ++ loose2 ++ loose3 ++ loose4 ++ loose5
abbrev R : PySem.W.OpenRow := PySem.W.OpenLaw.row PySem.Challenge.rw_kernelpapers_k20_whole_one_end
/-! ### the objects that the facts look at -/
def as0 : List Addr := [3, 424, 219, 220, 221, 228, 227, 235, 234, 240, 239, 247, 246, 252, 251, 257, 256, 264, 263, 271, 270, 278, 277, 285, 284, 292, 291, 297, 296, 304, 303]
def as1 : List Addr := [309, 308, 315, 314, 310, 322, 321, 329, 328, 330, 335, 334, 340, 339, 347, 346, 354, 353, 355, 362, 361, 367, 366, 374, 373, 381, 380, 388, 387, 395]
def as2 : List Addr := [394, 402, 401, 409, 408, 416, 415, 479, 478, 429, 428, 436, 435, 441, 440, 448, 447, 455, 454, 462, 461, 469, 468, 476, 475, 477, 480, 481, 490, 489]
def as3 : List Addr := [497, 496, 504, 503, 509, 508, 516, 515, 523, 522, 530, 529, 537, 536, 544, 543, 551, 550, 558, 557, 565, 564, 572, 571, 579, 578, 587, 586, 580, 594]
def as4 : List Addr := [593, 601, 600, 608, 607, 613, 612, 620, 619, 627, 626, 634, 633, 641, 640, 646, 645, 653, 652, 658, 657, 663, 662, 670, 669, 677, 676, 684, 683, 689]
def as5 : List Addr := [688]
def asL : List Addr := as0 ++ (as1 ++ (as2 ++ (as3 ++ (as4 ++ (as5)))))
def obsL (g : Addr → Option Obj) : He.AlX := (He.obsT fa fn ts (He.frT g asL), ex (He.frT g asL))
theorem saysL_of {w : World} {h : Heap} (e : obsL h.get? = He.valX fn ts w) : He.SaysX fa fn ts [] ex w h (He.frT h.get? asL) := by
  have e1 : He.obsT fa fn ts (He.frT h.get? asL) = He.valT fn ts w := congrArg (fun z : He.AlX => z.1) e
  have e2 : ex (He.frT h.get? asL) = true := congrArg (fun z : He.AlX => z.2) e
  exact ⟨e1, e2, (fun _ hp => nomatch hp), (fun _ hp => nomatch hp), (fun _ hp => nomatch hp)⟩
def hookL : PySem.W.Hook where
  α := He.AlX
  obs := fun s => obsL s.heap.get?
  val := fun w => He.valX fn ts w
  says := fun w h => ∃ K : PySem.W.Frag, K.In h ∧ He.SaysX fa fn ts [] ex w h K
  of := fun _ _ e => ⟨_, He.frT_in, saysL_of e⟩
  keeps := fun _ _ _ ⟨K, hK, c⟩ k => ⟨K, PySem.W.Frag.In.keeps hK k, ⟨c.t, c.more, c.hd, c.out, fun p hp => k _ _ (c.empty p hp)⟩⟩
abbrev hk : PySem.W.Hook := hookL
def ob (s : PySem.W.SharedT) : He.AlX := obsL (HandSHeadRun.getT s)
theorem ob_eq (s : PySem.W.SharedT) : ob s = hk.obs s.abs := by
  have e : HandSHeadRun.getT s = s.abs.heap.get? := funext (HandSHeadRun.getT_eq s)
  show obsL (HandSHeadRun.getT s) = obsL s.abs.heap.get?
  rw [e]
theorem runF (w : World) : HandSHeadRun.RunEq R (PySem.W.view R.prog [lawIx]) hk ob 8000 loose (w.withFollow "special-get-raises" false) := by
  intro os
  kernel_rfl
theorem runT (w : World) : HandSHeadRun.RunEq R (PySem.W.view R.prog [lawIx]) hk ob 8000 loose (w.withFollow "special-get-raises" true) := by
  intro os
  kernel_rfl
theorem run (w : World) : HandSHeadRun.RunEq R (PySem.W.view R.prog [lawIx]) hk ob 8000 loose w := PySem.W.byRow2 "special-get-raises" runF runT w
end Kp
set_option maxRecDepth 100000
set_option maxHeartbeats 2000000
/-! Dl1: data D, what stands for data in a heap (Rep), the state behind a reading (RS), the judgements DE, DA, DT, DS -/
namespace Kp
open PySem PySem.Spec L2

/-- the built-in classes that are asked for -/
inductive Tn where
  | int | bool | str | tuple | list
def Tn.s : Tn → String
  | .int => "int"
  | .bool => "bool"
  | .str => "str"
  | .tuple => "tuple"
  | .list => "list"
/-- data -/
inductive D where
  | non
  | bl (b : Bool)
  | int (i : Int)
  | str (s : Str)
  | tup (ds : List D)
  | lst (ds : List D)
  /-- a ground: its names, its rows -/
  | gnd (ns : List Str) (rs : List D)
  /-- an address -/
  | adr (a : Addr)
  /-- a built-in class -/
  | ty (t : Tn)
  /-- the script: a list of ints that is read alone -/
  | inp (ns : List Int)

/-- H' holds all that H holds -/
def Ex (H H' : Hp) : Prop := ∀ a o, H a = some o → H' a = some o
theorem Ex.refl (H : Hp) : Ex H H := fun _ _ h => h
theorem Ex.trans {H H1 H2 : Hp} (a : Ex H H1) (b : Ex H1 H2) : Ex H H2 := fun x o h => b x o (a x o h)
theorem Ex.new {H : Hp} {p : Addr} {o : HO} (h : H p = none) : Ex H (upd H p o) := fun a u e => by
  rw [upd_ne (ne_of_none e h)]
  exact e
theorem ex_rd {H H' : Hp} {a : Addr} {u : HO} (e : Ex H H') (h : Rd H a u) : Rd H' a u := by
  rcases h with h | ⟨o, h⟩
  · exact Or.inl (e a _ h)
  · exact Or.inr ⟨o, e a _ h⟩
theorem ex_t {K : PySem.W.Frag} {H H' : Hp} {a : Addr} {xs : List V} (e : Ex H H') (h : SqT K H a xs) : SqT K H' a xs := by
  rcases h with h | h
  · exact Or.inl (ex_rd e h)
  · exact Or.inr h
theorem ex_l {K : PySem.W.Frag} {H H' : Hp} {a : Addr} {xs : List V} (e : Ex H H') (h : SqL K H a xs) : SqL K H' a xs := by
  rcases h with h | h
  · exact Or.inl (ex_rd e h)
  · exact Or.inr h

mutual
/-- the value stands for the data -/
inductive Rep (K : PySem.W.Frag) (C : Addr) (H : Hp) : V → D → Prop
  | non : Rep K C H .non .non
  | bl (b : Bool) : Rep K C H (.bl b) (.bl b)
  | int (i : Int) : Rep K C H (.int i) (.int i)
  | str (s : Str) : Rep K C H (.str s) (.str s)
  | tup {a : Addr} {vs : List V} {ds : List D} : SqT K H a vs → Reps K C H vs ds → Rep K C H (.ref a) (.tup ds)
  | lst {a : Addr} {vs : List V} {ds : List D} : H a = some (.lst vs) → Reps K C H vs ds → Rep K C H (.ref a) (.lst ds)
  | gnd {a dx d : Addr} {fs : List (Str × V)} {kvs : List (Key × V)} {ns : List Str} {rs : List D} : H a = some (.ins C dx fs) → fs.lookup ("kept_by" : Str) = some (.ref d) → fs.lookup ("has" : Str) = none →
      fs.lookup ("told" : Str) = none → H d = some (.dK kvs) → kvs.map (·.1) = ns.map Sum.inr → Reps K C H (kvs.map (·.2)) rs → Rep K C H (.ref a) (.gnd ns rs)
  | adr (a : Addr) : Rep K C H (.ref a) (.adr a)
  | ty (t : Tn) : Rep K C H (.ty t.s) (.ty t)
  | inp {a : Addr} {ns : List Int} : SqL K H a (ns.map V.int) → Rep K C H (.ref a) (.inp ns)
inductive Reps (K : PySem.W.Frag) (C : Addr) (H : Hp) : List V → List D → Prop
  | nil : Reps K C H [] []
  | cons {v : V} {d : D} {vs : List V} {ds : List D} : Rep K C H v d → Reps K C H vs ds → Reps K C H (v :: vs) (d :: ds)
end

section
variable {K : PySem.W.Frag} {C : Addr} {H H' : Hp}
mutual
theorem Rep.mono (e : Ex H H') : ∀ {v : V} {d : D}, Rep K C H v d → Rep K C H' v d
  | _, _, .non => .non
  | _, _, .bl b => .bl b
  | _, _, .int i => .int i
  | _, _, .str s => .str s
  | _, _, .tup h r => .tup (ex_t e h) (Reps.mono e r)
  | _, _, .lst h r => .lst (e _ _ h) (Reps.mono e r)
  | _, _, .gnd h1 h2 h3 h4 h5 h6 r => .gnd (e _ _ h1) h2 h3 h4 (e _ _ h5) h6 (Reps.mono e r)
  | _, _, .adr a => .adr a
  | _, _, .ty t => .ty t
  | _, _, .inp h => .inp (ex_l e h)
theorem Reps.mono (e : Ex H H') : ∀ {vs : List V} {ds : List D}, Reps K C H vs ds → Reps K C H' vs ds
  | _, _, .nil => .nil
  | _, _, .cons h r => .cons (Rep.mono e h) (Reps.mono e r)
end
theorem Reps.length : ∀ {vs : List V} {ds : List D}, Reps K C H vs ds → vs.length = ds.length
  | _, _, .nil => rfl
  | _, _, .cons _ r => congrArg Nat.succ (Reps.length r)
theorem Reps.get : ∀ {vs : List V} {ds : List D} {i : Nat} {d : D}, Reps K C H vs ds → ds[i]? = some d → ∃ v, vs[i]? = some v ∧ Rep K C H v d
  | _, _, _, _, .nil, e => by simp at e
  | _, _, 0, _, .cons h _, e => by simp at e; subst e; exact ⟨_, rfl, h⟩
  | _, _, i + 1, d, .cons _ r, e => by
    obtain ⟨v, h1, h2⟩ := Reps.get (i := i) (d := d) r (by simpa using e)
    exact ⟨v, by simpa using h1, h2⟩
theorem Reps.getV : ∀ {vs : List V} {ds : List D} {i : Nat} {v : V}, Reps K C H vs ds → vs[i]? = some v → ∃ d, ds[i]? = some d ∧ Rep K C H v d
  | _, _, _, _, .nil, e => by simp at e
  | _, _, 0, _, .cons h _, e => by simp at e; subst e; exact ⟨_, rfl, h⟩
  | _, _, i + 1, v, .cons _ r, e => by
    obtain ⟨d, h1, h2⟩ := Reps.getV (i := i) (v := v) r (by simpa using e)
    exact ⟨d, by simpa using h1, h2⟩
theorem Reps.append : ∀ {vs ws : List V} {ds es : List D}, Reps K C H vs ds → Reps K C H ws es → Reps K C H (vs ++ ws) (ds ++ es)
  | _, _, _, _, .nil, s => s
  | _, _, _, _, .cons h r, s => .cons h (Reps.append r s)
theorem Reps.take : ∀ {vs : List V} {ds : List D} (n : Nat), Reps K C H vs ds → Reps K C H (vs.take n) (ds.take n)
  | _, _, 0, _ => .nil
  | _, _, _ + 1, .nil => .nil
  | _, _, n + 1, .cons h r => .cons h (Reps.take n r)
theorem Reps.drop : ∀ {vs : List V} {ds : List D} (n : Nat), Reps K C H vs ds → Reps K C H (vs.drop n) (ds.drop n)
  | _, _, 0, r => r
  | _, _, _ + 1, .nil => .nil
  | _, _, n + 1, .cons _ r => Reps.drop n r
theorem Reps.set {v : V} {d : D} (h : Rep K C H v d) : ∀ {vs : List V} {ds : List D} (n : Nat), Reps K C H vs ds → Reps K C H (vs.set n v) (ds.set n d)
  | _, _, _, .nil => .nil
  | _, _, 0, .cons _ r => .cons h r
  | _, _, n + 1, .cons q r => .cons q (Reps.set h n r)
theorem Reps.one {vs : List V} {d : D} (h : Reps K C H vs [d]) : ∃ v, vs = [v] ∧ Rep K C H v d := by
  cases h with
  | cons h r => cases r; exact ⟨_, rfl, h⟩
theorem Reps.two {vs : List V} {d e : D} (h : Reps K C H vs [d, e]) : ∃ v w, vs = [v, w] ∧ Rep K C H v d ∧ Rep K C H w e := by
  cases h with
  | cons h r =>
    obtain ⟨w, rfl, q⟩ := r.one
    exact ⟨_, _, rfl, h, q⟩
theorem Reps.ints {ns : List Int} : Reps K C H (ns.map V.int) (ns.map D.int) := by
  induction ns with
  | nil => exact .nil
  | cons n r ih => exact .cons (.int n) ih
/-- flat data -/
theorem Rep.int_iff {v : V} {i : Int} (h : Rep K C H v (.int i)) : v = .int i := by cases h; rfl
theorem Rep.bl_iff {v : V} {b : Bool} (h : Rep K C H v (.bl b)) : v = .bl b := by cases h; rfl
theorem Rep.str_iff {v : V} {s : Str} (h : Rep K C H v (.str s)) : v = .str s := by cases h; rfl
theorem Rep.non_iff {v : V} (h : Rep K C H v .non) : v = .non := by cases h; rfl
theorem Rep.tup_iff {v : V} {ds : List D} (h : Rep K C H v (.tup ds)) : ∃ a vs, v = .ref a ∧ SqT K H a vs ∧ Reps K C H vs ds := by
  cases h with
  | tup h r => exact ⟨_, _, rfl, h, r⟩
theorem Rep.lst_iff {v : V} {ds : List D} (h : Rep K C H v (.lst ds)) : ∃ a vs, v = .ref a ∧ H a = some (.lst vs) ∧ Reps K C H vs ds := by
  cases h with
  | lst h r => exact ⟨_, _, rfl, h, r⟩
end

/-! ### the heap without what is owned -/
open Classical in
noncomputable def hide (O : List Addr) (H : Hp) : Hp := fun a => if a ∈ O then none else H a
theorem hide_in {O : List Addr} {H : Hp} {a : Addr} (h : a ∈ O) : hide O H a = none := by unfold hide; rw [if_pos h]
theorem hide_out {O : List Addr} {H : Hp} {a : Addr} (h : a ∉ O) : hide O H a = H a := by unfold hide; rw [if_neg h]
theorem hide_some {O : List Addr} {H : Hp} {a : Addr} {o : HO} (h : hide O H a = some o) : a ∉ O ∧ H a = some o := by
  unfold hide at h
  by_cases e : a ∈ O
  · rw [if_pos e] at h; cases h
  · rw [if_neg e] at h; exact ⟨e, h⟩
theorem hide_ex {O : List Addr} {H : Hp} : Ex (hide O H) H := fun _ _ h => (hide_some h).2
theorem hide_mono {O : List Addr} {H H' : Hp} (e : Ex H H') : Ex (hide O H) (hide O H') := fun a o h => by
  obtain ⟨h1, h2⟩ := hide_some h
  rw [hide_out h1]; exact e a o h2
theorem hide_sub {O O' : List Addr} {H : Hp} (s : ∀ a ∈ O, a ∈ O') : Ex (hide O' H) (hide O H) := fun a o h => by
  obtain ⟨h1, h2⟩ := hide_some h
  rw [hide_out fun z => h1 (s a z)]; exact h2

/-! ### the state behind a reading -/
/-- the purse: its address, its three ints (none: there is no purse) -/
abbrev Pu := Option (Addr × List Int)
/-- a slot: nothing that is known, data, a list of its own -/
inductive Sl where
  | no
  | pu (d : D)
  | ow (ds : List D)
abbrev DEnv := List Sl
/-- the frame of a def: the heap at the entry, what is owned there, the purse's address -/
structure Fr where
  H0 : Hp
  O0 : List Addr
  pa : Option Addr
  d0 : ∀ b ∈ O0, ∃ o, H0 b = some o

structure RS (K : PySem.W.Frag) (C : Addr) (F : Fr) (O : List Addr) (H : Hp) (σ : St) (ρ : DEnv) (π : Pu) : Prop where
  pres : ∀ b o, F.H0 b = some o → F.pa ≠ some b → H b = some o
  dom : ∀ b ∈ O, ∃ o, H b = some o
  sub : ∀ b ∈ F.O0, b ∈ O
  pu : ∀ a l, π = some (a, l) → a ∈ O ∧ H a = some (.lst (l.map V.int)) ∧ (F.H0 a = none ∨ F.pa = some a)
  pu0 : ∀ a, F.pa = some a → ∃ l, π = some (a, l)
  sl : ∀ (i : Nat) (d : D), ρ[i]? = some (Sl.pu d) → ∃ v, σ[i]? = some (some v) ∧ Rep K C (hide O H) v d
  ow : ∀ (i : Nat) (ds : List D), ρ[i]? = some (Sl.ow ds) → ∃ p vs, σ[i]? = some (some (V.ref p)) ∧ p ∈ O ∧ F.H0 p = none ∧ H p = some (.lst vs) ∧ Reps K C (hide O H) vs ds ∧ (∀ a l, π = some (a, l) → p ≠ a)
  dis : ∀ (i j : Nat) (p : Addr) (ds es : List D), i ≠ j → ρ[i]? = some (Sl.ow ds) → ρ[j]? = some (Sl.ow es) → σ[i]? = some (some (V.ref p)) → σ[j]? ≠ some (some (V.ref p))
  len : ρ.length ≤ σ.length

/-- what an expression leaves: all objects but the purse, the purse at its place -/
structure Stp (π π' : Pu) (H H' : Hp) : Prop where
  keep : ∀ b o, H b = some o → (∀ a l, π = some (a, l) → b ≠ a) → H' b = some o
  pu : ∀ a l, π = some (a, l) → ∃ l', π' = some (a, l') ∧ H' a = some (.lst (l'.map V.int))
  no : π = none → π' = none
theorem Stp.trans {π π1 π2 : Pu} {H H1 H2 : Hp} (s : Stp π π1 H H1) (t : Stp π1 π2 H1 H2) : Stp π π2 H H2 where
  keep := fun b o h n => t.keep b o (s.keep b o h n) fun a l e => by
    cases π with
    | none => rw [s.no rfl] at e; cases e
    | some p =>
      obtain ⟨a0, l0⟩ := p
      obtain ⟨l', e1, _⟩ := s.pu a0 l0 rfl
      rw [e1] at e
      cases e
      exact n _ _ rfl
  pu := fun a l e => by
    obtain ⟨l1, e1, _⟩ := s.pu a l e
    exact t.pu a l1 e1
  no := fun e => t.no (s.no e)

section
variable {K : PySem.W.Frag} {C : Addr} {F : Fr} {O : List Addr} {H H' : Hp} {σ : St} {ρ : DEnv} {π π' : Pu}
theorem RS.ex_stp (R : RS K C F O H σ ρ π) (e : Ex H H') : Stp π π H H' where
  keep := fun b o h _ => e b o h
  pu := fun a l h => ⟨l, h, e _ _ (R.pu a l h).2.1⟩
  no := fun h => h
theorem RS.hide_stp (R : RS K C F O H σ ρ π) (s : Stp π π' H H') : Ex (hide O H) (hide O H') := fun b o h => by
  obtain ⟨h1, h2⟩ := hide_some h
  rw [hide_out h1]
  exact s.keep b o h2 fun a l e z => h1 (z ▸ (R.pu a l e).1)
/-- a new object that no owner has -/
theorem RS.fresh (R : RS K C F O H σ ρ π) {p : Addr} (h : H p = none) : p ∉ O := fun z => by
  obtain ⟨o, e⟩ := R.dom p z
  rw [h] at e; cases e
theorem RS.step (R : RS K C F O H σ ρ π) (s : Stp π π' H H') : RS K C F O H' σ ρ π' where
  pres := fun b o h n => s.keep b o (R.pres b o h n) fun a l e z => by
    rcases (R.pu a l e).2.2 with q | q
    · rw [← z, h] at q; cases q
    · exact n (z ▸ q)
  dom := fun b h => by
    obtain ⟨o, q⟩ := R.dom b h
    cases π with
    | none => exact ⟨o, s.keep b o q fun a l e => nomatch e⟩
    | some p =>
      obtain ⟨a, l⟩ := p
      by_cases e : b = a
      · obtain ⟨l', _, e2⟩ := s.pu a l rfl
        exact ⟨_, e ▸ e2⟩
      · exact ⟨o, s.keep b o q fun a' l' e' => by cases e'; exact e⟩
  sub := R.sub
  pu := fun a l' h => by
    cases π with
    | none => rw [s.no rfl] at h; cases h
    | some p =>
      obtain ⟨a0, l0⟩ := p
      obtain ⟨l1, e1, e2⟩ := s.pu a0 l0 rfl
      rw [e1] at h
      cases h
      obtain ⟨h1, _, h3⟩ := R.pu _ _ rfl
      exact ⟨h1, e2, h3⟩
  pu0 := fun a h => by
    obtain ⟨l, e⟩ := R.pu0 a h
    obtain ⟨l', e1, _⟩ := s.pu a l e
    exact ⟨l', e1⟩
  sl := fun i d h => let ⟨v, h1, h2⟩ := R.sl i d h; ⟨v, h1, h2.mono (R.hide_stp s)⟩
  ow := fun i ds h => by
    obtain ⟨p, vs, h1, h2, h3, h4, h5, h6⟩ := R.ow i ds h
    refine ⟨p, vs, h1, h2, h3, s.keep _ _ h4 h6, h5.mono (R.hide_stp s), fun a l e z => ?_⟩
    cases π with
    | none => rw [s.no rfl] at e; cases e
    | some q =>
      obtain ⟨a0, l0⟩ := q
      obtain ⟨l1, e1, _⟩ := s.pu a0 l0 rfl
      rw [e1] at e
      cases e
      exact h6 _ _ rfl z
  dis := R.dis
  len := R.len
theorem RS.grow (R : RS K C F O H σ ρ π) (e : Ex H H') : RS K C F O H' σ ρ π := R.step (R.ex_stp e)
end

/-! ### readings over data -/
abbrev DTe := DEnv → Pu → (D → Pu → Prop) → Prop
abbrev DTa := DEnv → Pu → (List D → Pu → Prop) → Prop
abbrev DTt := DEnv → Pu → (Bool → Pu → Prop) → Prop
structure DEnds where
  nx : DEnv → Pu → Prop
  rt : D → Pu → Prop
  bk : DEnv → Pu → Prop := fun _ _ => False
  ct : DEnv → Pu → Prop := fun _ _ => False
abbrev DTs := DEnds → DEnv → Pu → Prop
structure DEnds.le (A B : DEnds) : Prop where
  nx : ∀ ρ π, A.nx ρ π → B.nx ρ π
  rt : ∀ d π, A.rt d π → B.rt d π
  bk : ∀ ρ π, A.bk ρ π → B.bk ρ π
  ct : ∀ ρ π, A.ct ρ π → B.ct ρ π
theorem DEnds.le.refl (A : DEnds) : A.le A := ⟨fun _ _ h => h, fun _ _ h => h, fun _ _ h => h, fun _ _ h => h⟩

/-- what a for or a comprehension walks: the data of each turn -/
structure WalkD (K : PySem.W.Frag) (C : Addr) (J : It) (G : Hp) (ds : List D) : Prop where
  goes : ∀ (i : Nat) (O : List Addr) (H : Hp), Ex G (hide O H) → i < ds.length → J.go i H
  stops : ∀ (O : List Addr) (H : Hp), Ex G (hide O H) → J.stop ds.length H
  yields : ∀ (i : Nat) (O : List Addr) (H : Hp) (x : V) (H' : Hp), (∀ b ∈ O, ∃ o, H b = some o) → Ex G (hide O H) → i < ds.length → J.yld i H x H' → Ex H H' ∧ ∃ d, ds[i]? = some d ∧ Rep K C (hide O H') x d

section
variable (K : PySem.W.Frag) (C : Addr) (F : Fr)
def tE (f : DTe) : TE := fun σ H Q => ∃ ρ π O, RS K C F O H σ ρ π ∧ f ρ π fun d π' => ∀ v H', Stp π π' H H' → Rep K C (hide O H') v d → Q v H'
def tA (f : DTa) : TA := fun σ H Q => ∃ ρ π O, RS K C F O H σ ρ π ∧ f ρ π fun ds π' => ∀ vs H', Stp π π' H H' → Reps K C (hide O H') vs ds → Q vs H'
def tT (f : DTt) : TT := fun σ H Q => ∃ ρ π O, RS K C F O H σ ρ π ∧ f ρ π fun b π' => ∀ H', Stp π π' H H' → Q b H'
def tI (f : DTa) : TI := fun σ H R => ∃ ρ π O, RS K C F O H σ ρ π ∧ f ρ π fun ds π' => ∀ J H', Stp π π' H H' → WalkD K C J (hide O H') ds → R J H'
def dEnds (O : List Addr) (H : Hp) (A : Ends) : DEnds where
  nx := fun ρ' π' => ∀ σ' H' O', Ex (hide O H) (hide O' H') → RS K C F O' H' σ' ρ' π' → A.nx σ' H'
  bk := fun ρ' π' => ∀ σ' H' O', Ex (hide O H) (hide O' H') → RS K C F O' H' σ' ρ' π' → A.bk σ' H'
  ct := fun ρ' π' => ∀ σ' H' O', Ex (hide O H) (hide O' H') → RS K C F O' H' σ' ρ' π' → A.ct σ' H'
  rt := fun d π' => ∀ v H' O' σ' ρ', Ex (hide O H) (hide O' H') → RS K C F O' H' σ' ρ' π' → Rep K C (hide O' H') v d → A.rt v H'
def tSt (g : DTs) : TS := fun A σ H => ∃ ρ π O, RS K C F O H σ ρ π ∧ g (dEnds K C F O H A) ρ π
end

structure DE (X : Cx) (C : Addr) (e : Expr) (f : DTe) : Prop where
  pe : ∀ F, PE X e (tE X.K C F f)
  mono : ∀ ρ π Q Q', (∀ d π', Q d π' → Q' d π') → f ρ π Q → f ρ π Q'
structure DA (X : Cx) (C : Addr) (es : List Expr) (f : DTa) : Prop where
  pa : ∀ F, PA X es (tA X.K C F f)
  mono : ∀ ρ π Q Q', (∀ d π', Q d π' → Q' d π') → f ρ π Q → f ρ π Q'
structure DT (X : Cx) (C : Addr) (e : Expr) (f : DTt) : Prop where
  pt : ∀ F, PT X e (tT X.K C F f)
  mono : ∀ ρ π Q Q', (∀ d π', Q d π' → Q' d π') → f ρ π Q → f ρ π Q'
structure DW (X : Cx) (C : Addr) (e : Expr) (f : DTt) : Prop where
  pw : ∀ F, PW X e (tT X.K C F f)
  mono : ∀ ρ π Q Q', (∀ d π', Q d π' → Q' d π') → f ρ π Q → f ρ π Q'
structure DI (X : Cx) (C : Addr) (tg iter : Expr) (f : DTa) : Prop where
  pi : ∀ F, PI X tg iter (tI X.K C F f)
  mono : ∀ ρ π Q Q', (∀ d π', Q d π' → Q' d π') → f ρ π Q → f ρ π Q'
structure DS (X : Cx) (C : Addr) (st : Stmt) (g : DTs) : Prop where
  ps : ∀ F, PS X st (tSt X.K C F g)
  mono : ∀ A B : DEnds, A.le B → ∀ ρ π, g A ρ π → g B ρ π
structure DSs (X : Cx) (C : Addr) (sts : List Stmt) (g : DTs) : Prop where
  ps : ∀ F, PSs X sts (tSt X.K C F g)
  mono : ∀ A B : DEnds, A.le B → ∀ ρ π, g A ρ π → g B ρ π

section
variable {X : Cx}
theorem pe_weak {e : Expr} {t t' : TE} (h : PE X e t) (w : ∀ σ H Q, t' σ H Q → t σ H Q) : PE X e t' := ⟨fun pins s σ H Q I q => h.run pins s σ H Q I (w _ _ _ q)⟩
theorem pa_weak {e : List Expr} {t t' : TA} (h : PA X e t) (w : ∀ σ H Q, t' σ H Q → t σ H Q) : PA X e t' := ⟨fun pos pins s σ H Q I q => h.run pos pins s σ H Q I (w _ _ _ q)⟩
theorem pt_weak {e : Expr} {t t' : TT} (h : PT X e t) (w : ∀ σ H Q, t' σ H Q → t σ H Q) : PT X e t' := ⟨fun pins s σ H Q I q => h.run pins s σ H Q I (w _ _ _ q)⟩
theorem pw_weak {e : Expr} {t t' : TT} (h : PW X e t) (w : ∀ σ H Q, t' σ H Q → t σ H Q) : PW X e t' := ⟨fun wh pins s σ H Q I q => h.run wh pins s σ H Q I (w _ _ _ q)⟩
theorem pi_weak {tg e : Expr} {t t' : TI} (h : PI X tg e t) (w : ∀ σ H Q, t' σ H Q → t σ H Q) : PI X tg e t' := ⟨fun pins s σ H Q I q => h.run pins s σ H Q I (w _ _ _ q)⟩
theorem pg_weak {e : Expr} {t t' : TG} (h : PG X e t) (w : ∀ x σ H Q, t' x σ H Q → t x σ H Q) : PG X e t' := ⟨fun pins s σ H v u Q I r q => h.run pins s σ H v u Q I r (w _ _ _ _ q)⟩
theorem ps_weak {e : Stmt} {t t' : TS} (h : PS X e t) (w : ∀ A σ H, t' A σ H → t A σ H) : PS X e t' := ⟨fun pins s σ H A I q => h.run pins s σ H A I (w _ _ _ q)⟩
theorem pss_weak {e : List Stmt} {t t' : TS} (h : PSs X e t) (w : ∀ A σ H, t' A σ H → t A σ H) : PSs X e t' := ⟨fun pins s σ H A I q => h.run pins s σ H A I (w _ _ _ q)⟩
end
end Kp
set_option maxRecDepth 100000
set_option maxHeartbeats 2000000
/-! Dl2: expressions over data -/
namespace Kp
open PySem PySem.Spec L2

theorem big_line {n : Nat} (h : n ≤ 1000000) : n ≤ sizeLine := Nat.le_trans h (by decide)
theorem big_lt {n : Nat} (h : n < 1000000) : n < sizeLine := Nat.lt_of_lt_of_le h (by decide)

/-- all owned are there -/
abbrev Dm (O : List Addr) (H : Hp) : Prop := ∀ b ∈ O, ∃ o, H b = some o
theorem Dm.fresh {O : List Addr} {H : Hp} {p : Addr} (d : Dm O H) (h : H p = none) : p ∉ O := fun z => by
  obtain ⟨o, e⟩ := d p z
  rw [h] at e; cases e
theorem Dm.grow {O : List Addr} {H H' : Hp} (d : Dm O H) (e : Ex H H') : Dm O H' := fun b h => let ⟨o, q⟩ := d b h; ⟨o, e b o q⟩
abbrev KD := D → Prop
section
variable {K : PySem.W.Frag} {C : Addr} {O : List Addr} {H : Hp}
/-- a new tuple, a new list -/
theorem new_tup {p : Addr} {vs : List V} {ds : List D} (d : Dm O H) (h : H p = none) (r : Reps K C (hide O H) vs ds) : Rep K C (hide O (upd H p (.tup vs))) (.ref p) (.tup ds) :=
  .tup (.inl (.inl (by rw [hide_out (d.fresh h), upd_same]))) (r.mono (hide_mono (Ex.new h)))
theorem new_lst {p : Addr} {vs : List V} {ds : List D} (d : Dm O H) (h : H p = none) (r : Reps K C (hide O H) vs ds) : Rep K C (hide O (upd H p (.lst vs))) (.ref p) (.lst ds) :=
  .lst (by rw [hide_out (d.fresh h), upd_same]) (r.mono (hide_mono (Ex.new h)))
end

/-- a two-place operation, by data -/
structure D2 (K : PySem.W.Frag) (C : Addr) (r : R2) (k : D → D → KD → Prop) : Prop where
  to : ∀ (O : List Addr) (H : Hp) (x y : V) (dx dy : D) (Q : VK), Dm O H → Rep K C (hide O H) x dx → Rep K C (hide O H) y dy → k dx dy (fun d => ∀ v H', Ex H H' → Rep K C (hide O H') v d → Q v H') → r x y H Q
  mono : ∀ dx dy Q Q', (∀ d, Q d → Q' d) → k dx dy Q → k dx dy Q'
/-- a call on values, by data -/
structure DC (K : PySem.W.Frag) (C : Addr) (r : List V → Hp → VK → Prop) (k : List D → KD → Prop) : Prop where
  to : ∀ (O : List Addr) (H : Hp) (vs : List V) (ds : List D) (Q : VK), Dm O H → Reps K C (hide O H) vs ds → k ds (fun d => ∀ v H', Ex H H' → Rep K C (hide O H') v d → Q v H') → r vs H Q
  mono : ∀ ds Q Q', (∀ d, Q d → Q' d) → k ds Q → k ds Q'

/-! ### names, constants -/
@[simp] def dVar (i : Nat) : DTe := fun ρ π Q => ∃ d, ρ[i]? = some (Sl.pu d) ∧ Q d π
@[simp] def dC (d : D) : DTe := fun _ π Q => Q d π
section
variable {X : Cx} {C : Addr} {a b c e : Expr} {es : List Expr} {f g h : DTe} {fa : DTa} {pos : Pos}
theorem de_var (i : Nat) {x : Str} (hN : X.N[i]? = some x := by rfl) (hv : Vis X.env.scope x := by first | exact Or.inl rfl | exact Or.inr (Or.inl rfl) | exact Or.inr (Or.inr rfl)) (hd : (x == ("__debug__" : Str)) = false := by decide)
    (hcd : (x == ("__classdict__" : Str)) = false := by decide) : DE X C (.Name x pos) (dVar i) where
  pe := fun F => pe_weak (pe_var hN hv hd hcd) fun σ H Q ⟨ρ, π, O, R, d, h1, h2⟩ => by
    obtain ⟨v, e1, r⟩ := R.sl i d h1
    exact ⟨v, e1, h2 v H (R.ex_stp (Ex.refl H)) r⟩
  mono := fun ρ π Q Q' q ⟨d, h1, h2⟩ => ⟨d, h1, q _ _ h2⟩
/-- a value that stands for data in every heap -/
theorem de_tC {v : V} {d : D} (h : PE X e (tC v)) (r : ∀ H, Rep X.K C H v d) : DE X C e (dC d) where
  pe := fun F => pe_weak h fun σ H Q ⟨ρ, π, O, R, q⟩ => q v H (R.ex_stp (Ex.refl H)) (r _)
  mono := fun ρ π Q Q' q h => q _ _ h
theorem de_int {i j} : DE X C (.Constant (.int i) j pos) (dC (.int i)) := de_tC pe_int fun _ => .int i
theorem de_bl {i j} : DE X C (.Constant (.bool i) j pos) (dC (.bl i)) := de_tC pe_bl fun _ => .bl i
theorem de_non {j} : DE X C (.Constant .none j pos) (dC .non) := de_tC pe_non fun _ => .non
theorem de_str {i j} : DE X C (.Constant (.str i) j pos) (dC (.str i)) := de_tC pe_str fun _ => .str i
theorem de_glob {x : Str} {v : V} {u : Value} {d : D} (hg : Gl X x) (hm : X.mg x = some u) (r : RelV v u) (rd : ∀ H, Rep X.K C H v d) (hd : (x == ("__debug__" : Str)) = false := by decide) : DE X C (.Name x pos) (dC d) :=
  de_tC (pe_glob hg hm r hd) rd

/-! ### argument lists, displays -/
@[simp] def dNil : DTa := fun _ π Q => Q [] π
@[simp] def dCons (f : DTe) (g : DTa) : DTa := fun ρ π Q => f ρ π fun d π1 => g ρ π1 fun ds π2 => Q (d :: ds) π2
theorem da_nil : DA X C [] dNil where
  pa := fun F => pa_weak pa_nil fun σ H Q ⟨ρ, π, O, R, q⟩ => q [] H (R.ex_stp (Ex.refl H)) .nil
  mono := fun ρ π Q Q' q h => q _ _ h
theorem da_cons (ha : DE X C e f) (hr : DA X C es fa) (hs : starEach (e :: es) X.env = (false, eval e X.env) :: starEach es X.env := by rfl) : DA X C (e :: es) (dCons f fa) where
  pa := fun F => pa_weak (pa_cons (ha.pe F) (hr.pa F) hs) fun σ H Q ⟨ρ, π, O, R, q⟩ =>
    ⟨ρ, π, O, R, ha.mono _ _ _ _ (fun d π1 q1 v H1 s1 r1 =>
      ⟨ρ, π1, O, R.step s1, hr.mono _ _ _ _ (fun ds π2 q2 vs H2 s2 r2 => q2 (v :: vs) H2 (s1.trans s2) (.cons (r1.mono ((R.step s1).hide_stp s2)) r2)) q1⟩) q⟩
  mono := fun ρ π Q Q' q h => ha.mono _ _ _ _ (fun d π1 h1 => hr.mono _ _ _ _ (fun ds π2 h2 => q _ _ h2) h1) h
@[simp] def dTup (f : DTa) : DTe := fun ρ π Q => f ρ π fun ds π1 => ds.length ≤ 100 ∧ Q (.tup ds) π1
@[simp] def dLst (f : DTa) : DTe := fun ρ π Q => f ρ π fun ds π1 => ds.length ≤ 100 ∧ Q (.lst ds) π1
theorem de_tup {x1} (h : DA X C es fa) : DE X C (.Tuple es x1 pos) (dTup fa) where
  pe := fun F => pe_weak (pe_tup (h.pa F)) fun σ H Q ⟨ρ, π, O, R, q⟩ =>
    ⟨ρ, π, O, R, h.mono _ _ _ _ (fun ds π1 q1 vs H1 s1 r1 => ⟨big_line (by rw [r1.length]; have := q1.1; omega), fun p hp =>
      q1.2 _ _ (s1.trans ((R.step s1).ex_stp (Ex.new hp))) (new_tup (R.step s1).dom hp r1)⟩) q⟩
  mono := fun ρ π Q Q' q hh => h.mono _ _ _ _ (fun ds π1 h1 => ⟨h1.1, q _ _ h1.2⟩) hh
theorem de_lst (h : DA X C es fa) : DE X C (.List es pos) (dLst fa) where
  pe := fun F => pe_weak (pe_lst (h.pa F)) fun σ H Q ⟨ρ, π, O, R, q⟩ =>
    ⟨ρ, π, O, R, h.mono _ _ _ _ (fun ds π1 q1 vs H1 s1 r1 => ⟨big_line (by rw [r1.length]; have := q1.1; omega), fun p hp =>
      q1.2 _ _ (s1.trans ((R.step s1).ex_stp (Ex.new hp))) (new_lst (R.step s1).dom hp r1)⟩) q⟩
  mono := fun ρ π Q Q' q hh => h.mono _ _ _ _ (fun ds π1 h1 => ⟨h1.1, q _ _ h1.2⟩) hh

/-! ### two-place operations -/
@[simp] def dBin (k : D → D → KD → Prop) (f g : DTe) : DTe := fun ρ π Q => f ρ π fun x π1 => g ρ π1 fun y π2 => k x y fun d => Q d π2
theorem tOp_bin {F : Fr} {K : PySem.W.Frag} {r : R2} {k : D → D → KD → Prop} (hk : D2 K C r k) (ma : ∀ ρ π Q Q', (∀ d π', Q d π' → Q' d π') → f ρ π Q → f ρ π Q') (mb : ∀ ρ π Q Q', (∀ d π', Q d π' → Q' d π') → g ρ π Q → g ρ π Q') {σ : St} {H : Hp} {Q : VK}
    (q : tE K C F (dBin k f g) σ H Q) : tOp r (tE K C F f) (tE K C F g) σ H Q := by
  obtain ⟨ρ, π, O, R, q⟩ := q
  refine ⟨ρ, π, O, R, ma _ _ _ _ (fun x π1 q1 vx H1 s1 r1 => ⟨ρ, π1, O, R.step s1, mb _ _ _ _ (fun y π2 q2 vy H2 s2 r2 => ?_) q1⟩) q⟩
  refine hk.to O H2 vx vy x y Q ((R.step s1).step s2).dom (r1.mono ((R.step s1).hide_stp s2)) r2 (hk.mono _ _ _ _ (fun d q3 v H' e3 r3 => ?_) q2)
  exact q3 v H' ((s1.trans s2).trans (((R.step s1).step s2).ex_stp e3)) r3
theorem dBin_mono {k : D → D → KD → Prop} (mk : ∀ dx dy Q Q', (∀ d, Q d → Q' d) → k dx dy Q → k dx dy Q') (ma : ∀ ρ π Q Q', (∀ d π', Q d π' → Q' d π') → f ρ π Q → f ρ π Q') (mb : ∀ ρ π Q Q', (∀ d π', Q d π' → Q' d π') → g ρ π Q → g ρ π Q') :
    ∀ ρ π Q Q', (∀ d π', Q d π' → Q' d π') → dBin k f g ρ π Q → dBin k f g ρ π Q' := fun ρ π Q Q' q h =>
  ma _ _ _ _ (fun x π1 h1 => mb _ _ _ _ (fun y π2 h2 => mk _ _ _ _ (fun d h3 => q _ _ h3) h2) h1) h
theorem de_bin {op : Operator} {r : R2} {k : D → D → KD → Prop} (ho : OpR X (binaryOp op) r) (hk : D2 X.K C r k) (ha : DE X C a f) (hb : DE X C b g) : DE X C (.BinOp a op b pos) (dBin k f g) where
  pe := fun F => pe_weak (pe_op ho (ha.pe F) (hb.pe F)) fun σ H Q q => tOp_bin hk ha.mono hb.mono q
  mono := dBin_mono hk.mono ha.mono hb.mono
theorem de_cmp {op : CmpOp} {r : R2} {k : D → D → KD → Prop} (ho : OpR X (compareOp op) r) (hk : D2 X.K C r k) (ha : DE X C a f) (hb : DE X C b g) (hm : behindInMarks op b = false) : DE X C (.Compare a [op] [b] pos) (dBin k f g) where
  pe := fun F => pe_weak (pe_cmpR ho (ha.pe F) (hb.pe F) hm) fun σ H Q q => tOp_bin hk ha.mono hb.mono q
  mono := dBin_mono hk.mono ha.mono hb.mono
theorem de_ix {r : R2} {k : D → D → KD → Prop} (ho : IxR X r) (hk : D2 X.K C r k) (ha : DE X C a f) (hb : DE X C b g) (hs : PlainIx b := by exact fun _ _ => rfl) : DE X C (.Subscript a b pos) (dBin k f g) where
  pe := fun F => pe_weak (pe_ix ho (ha.pe F) (hb.pe F) hs) fun σ H Q q => tOp_bin hk ha.mono hb.mono q
  mono := dBin_mono hk.mono ha.mono hb.mono

/-! ### tests -/
@[simp] def dTst (f : DTe) : DTt := fun ρ π Q => f ρ π fun d π1 => ∃ b, d = .bl b ∧ Q b π1
theorem dTst_mono (ma : ∀ ρ π Q Q', (∀ d π', Q d π' → Q' d π') → f ρ π Q → f ρ π Q') : ∀ ρ π Q Q', (∀ d π', Q d π' → Q' d π') → dTst f ρ π Q → dTst f ρ π Q' := fun ρ π Q Q' q h =>
  ma _ _ _ _ (fun d π1 ⟨b, e, h1⟩ => ⟨b, e, q _ _ h1⟩) h
theorem dt_val (ha : DE X C e f) (he : ∀ whole, isTrue e X.env whole = (do let v ← whole; standAt e.pos; holding [v] (truthy v)) := by intro _; rfl) : DT X C e (dTst f) where
  pt := fun F => pt_weak (pt_val (ha.pe F) he) fun σ H Q ⟨ρ, π, O, R, q⟩ => ⟨ρ, π, O, R, ha.mono _ _ _ _ (fun d π1 ⟨b, e, q1⟩ v H1 s1 r1 => by
    subst e
    exact ⟨b, r1.bl_iff, q1 H1 s1⟩) q⟩
  mono := dTst_mono ha.mono
theorem dt_cmp {op : CmpOp} {r : R2} {k : D → D → KD → Prop} (ho : OpR X (compareOp op) r) (hk : D2 X.K C r k) (ha : DE X C a f) (hb : DE X C b g) (hm : behindInMarks op b = false) : DT X C (.Compare a [op] [b] pos) (dTst (dBin k f g)) where
  pt := fun F => pt_weak (pt_cmpR ho (ha.pe F) (hb.pe F) hm) fun σ H Q ⟨ρ, π, O, R, q⟩ => by
    refine tOp_bin (F := F) hk ha.mono hb.mono ?_
    exact ⟨ρ, π, O, R, dBin_mono hk.mono ha.mono hb.mono _ _ _ _ (fun d π1 ⟨b, e, q1⟩ v H1 s1 r1 => by
      subst e
      exact ⟨b, r1.bl_iff, q1 H1 s1⟩) q⟩
  mono := dTst_mono (dBin_mono hk.mono ha.mono hb.mono)
@[simp] def dAnd (t u : DTt) : DTt := fun ρ π Q => t ρ π fun c π1 => if c = true then u ρ π1 Q else Q false π1
@[simp] def dOr (t u : DTt) : DTt := fun ρ π Q => t ρ π fun c π1 => if c = true then Q true π1 else u ρ π1 Q
@[simp] def dNot (t : DTt) : DTt := fun ρ π Q => t ρ π fun c π1 => Q (!c) π1
variable {t u : DTt} {rest : List Expr}
theorem dw_and1 (ha : DT X C a t) : DW X C (.BoolOp .And [a] pos) t := ⟨fun F => pw_and1 (ha.pt F), ha.mono⟩
theorem dw_or1 (ha : DT X C a t) : DW X C (.BoolOp .Or [a] pos) t := ⟨fun F => pw_or1 (ha.pt F), ha.mono⟩
theorem dw_and (ha : DT X C a t) (hb : DW X C (.BoolOp .And (b :: rest) pos) u) : DW X C (.BoolOp .And (a :: b :: rest) pos) (dAnd t u) where
  pw := fun F => pw_weak (pw_and (ha.pt F) (hb.pw F)) fun σ H Q ⟨ρ, π, O, R, q⟩ => ⟨ρ, π, O, R, ha.mono _ _ _ _ (fun c π1 q1 H1 s1 => by
    cases c with
    | true => exact ⟨ρ, π1, O, R.step s1, hb.mono _ _ _ _ (fun d π2 q2 H2 s2 => q2 H2 (s1.trans s2)) q1⟩
    | false => exact q1 H1 s1) q⟩
  mono := fun ρ π Q Q' q h => ha.mono _ _ _ _ (fun c π1 h1 => by
    cases c with
    | true => exact hb.mono _ _ _ _ q h1
    | false => exact q _ _ h1) h
theorem dw_or (ha : DT X C a t) (hb : DW X C (.BoolOp .Or (b :: rest) pos) u) : DW X C (.BoolOp .Or (a :: b :: rest) pos) (dOr t u) where
  pw := fun F => pw_weak (pw_or (ha.pt F) (hb.pw F)) fun σ H Q ⟨ρ, π, O, R, q⟩ => ⟨ρ, π, O, R, ha.mono _ _ _ _ (fun c π1 q1 H1 s1 => by
    cases c with
    | false => exact ⟨ρ, π1, O, R.step s1, hb.mono _ _ _ _ (fun d π2 q2 H2 s2 => q2 H2 (s1.trans s2)) q1⟩
    | true => exact q1 H1 s1) q⟩
  mono := fun ρ π Q Q' q h => ha.mono _ _ _ _ (fun c π1 h1 => by
    cases c with
    | false => exact hb.mono _ _ _ _ q h1
    | true => exact q _ _ h1) h
theorem DW.dt (h : DW X C e t) : DT X C e t := ⟨fun F => (h.pw F).pt, h.mono⟩
theorem dt_not (ha : DT X C a t) : DT X C (.UnaryOp .Not a pos) (dNot t) where
  pt := fun F => pt_weak (pt_not (ha.pt F)) fun σ H Q ⟨ρ, π, O, R, q⟩ => ⟨ρ, π, O, R, q⟩
  mono := fun ρ π Q Q' q h => ha.mono _ _ _ _ (fun c π1 h1 => q _ _ h1) h
/-! ### and, or, not as values (bools) -/
@[simp] def dAndV (f g : DTe) : DTe := fun ρ π Q => f ρ π fun d π1 => ∃ c, d = .bl c ∧ if c = true then g ρ π1 Q else Q (.bl false) π1
@[simp] def dOrV (f g : DTe) : DTe := fun ρ π Q => f ρ π fun d π1 => ∃ c, d = .bl c ∧ if c = true then Q (.bl true) π1 else g ρ π1 Q
@[simp] def dNotV (f : DTe) : DTe := fun ρ π Q => f ρ π fun d π1 => ∃ c, d = .bl c ∧ Q (.bl (!c)) π1
theorem de_one {op} (h : DE X C a f) : DE X C (.BoolOp op [a] pos) f := ⟨fun F => pe_one (h.pe F), h.mono⟩
theorem de_and (ha : DE X C a f) (hb : DE X C (.BoolOp .And (b :: rest) pos) g) : DE X C (.BoolOp .And (a :: b :: rest) pos) (dAndV f g) where
  pe := fun F => pe_weak (pe_and (ha.pe F) (hb.pe F)) fun σ H Q ⟨ρ, π, O, R, q⟩ => ⟨ρ, π, O, R, ha.mono _ _ _ _ (fun d π1 ⟨c, e, q1⟩ v H1 s1 r1 => by
    subst e
    refine ⟨c, r1.bl_iff, ?_⟩
    cases c with
    | true => exact ⟨ρ, π1, O, R.step s1, hb.mono _ _ _ _ (fun d π2 q2 v H2 s2 r2 => q2 v H2 (s1.trans s2) r2) q1⟩
    | false => exact q1 _ _ s1 (.bl false)) q⟩
  mono := fun ρ π Q Q' q h => ha.mono _ _ _ _ (fun d π1 ⟨c, e, h1⟩ => ⟨c, e, by
    cases c with
    | true => exact hb.mono _ _ _ _ q h1
    | false => exact q _ _ h1⟩) h
theorem de_or (ha : DE X C a f) (hb : DE X C (.BoolOp .Or (b :: rest) pos) g) : DE X C (.BoolOp .Or (a :: b :: rest) pos) (dOrV f g) where
  pe := fun F => pe_weak (pe_or (ha.pe F) (hb.pe F)) fun σ H Q ⟨ρ, π, O, R, q⟩ => ⟨ρ, π, O, R, ha.mono _ _ _ _ (fun d π1 ⟨c, e, q1⟩ v H1 s1 r1 => by
    subst e
    refine ⟨c, r1.bl_iff, ?_⟩
    cases c with
    | false => exact ⟨ρ, π1, O, R.step s1, hb.mono _ _ _ _ (fun d π2 q2 v H2 s2 r2 => q2 v H2 (s1.trans s2) r2) q1⟩
    | true => exact q1 _ _ s1 (.bl true)) q⟩
  mono := fun ρ π Q Q' q h => ha.mono _ _ _ _ (fun d π1 ⟨c, e, h1⟩ => ⟨c, e, by
    cases c with
    | false => exact hb.mono _ _ _ _ q h1
    | true => exact q _ _ h1⟩) h
theorem de_not (ha : DE X C a f) : DE X C (.UnaryOp .Not a pos) (dNotV f) where
  pe := fun F => pe_weak (pe_not (ha.pe F)) fun σ H Q ⟨ρ, π, O, R, q⟩ => ⟨ρ, π, O, R, ha.mono _ _ _ _ (fun d π1 ⟨c, e, q1⟩ v H1 s1 r1 => by
    subst e
    exact ⟨c, r1.bl_iff, q1 _ _ s1 (.bl _)⟩) q⟩
  mono := fun ρ π Q Q' q h => ha.mono _ _ _ _ (fun d π1 ⟨c, e, h1⟩ => ⟨c, e, q _ _ h1⟩) h
@[simp] def dIf (t : DTt) (f g : DTe) : DTe := fun ρ π Q => t ρ π fun c π1 => if c = true then f ρ π1 Q else g ρ π1 Q
theorem de_if (hc : DT X C c t) (ha : DE X C a f) (hb : DE X C b g) : DE X C (.IfExp c a b pos) (dIf t f g) where
  pe := fun F => pe_weak (pe_ifExp (hc.pt F) (ha.pe F) (hb.pe F)) fun σ H Q ⟨ρ, π, O, R, q⟩ => ⟨ρ, π, O, R, hc.mono _ _ _ _ (fun d π1 q1 H1 s1 => by
    cases d with
    | true => exact ⟨ρ, π1, O, R.step s1, ha.mono _ _ _ _ (fun d π2 q2 v H2 s2 r2 => q2 v H2 (s1.trans s2) r2) q1⟩
    | false => exact ⟨ρ, π1, O, R.step s1, hb.mono _ _ _ _ (fun d π2 q2 v H2 s2 r2 => q2 v H2 (s1.trans s2) r2) q1⟩) q⟩
  mono := fun ρ π Q Q' q h => hc.mono _ _ _ _ (fun d π1 h1 => by
    cases d with
    | true => exact ha.mono _ _ _ _ q h1
    | false => exact hb.mono _ _ _ _ q h1) h

/-! ### chains: a op b op' c, on ints -/
@[simp] def dChain (k k' : D → D → KD → Prop) (f g h : DTe) : DTe := fun ρ π Q => f ρ π fun x π1 => g ρ π1 fun y π2 => k x y fun z => ∃ c, z = .bl c ∧ (if c = true then h ρ π2 fun w π3 => k' y w fun d => Q d π3 else Q (.bl false) π2)
theorem tChain_of {F : Fr} {K : PySem.W.Frag} {r r' : R2} {k k' : D → D → KD → Prop} (hk : D2 K C r k) (hk' : D2 K C r' k') (ma : ∀ ρ π Q Q', (∀ d π', Q d π' → Q' d π') → f ρ π Q → f ρ π Q') (mb : ∀ ρ π Q Q', (∀ d π', Q d π' → Q' d π') → g ρ π Q → g ρ π Q')
    (mc : ∀ ρ π Q Q', (∀ d π', Q d π' → Q' d π') → h ρ π Q → h ρ π Q') {σ : St} {H : Hp} {Q : VK} (q : tE K C F (dChain k k' f g h) σ H Q) : tChain r r' (tE K C F f) (tE K C F g) (tE K C F h) σ H Q := by
  obtain ⟨ρ, π, O, R, q⟩ := q
  refine ⟨ρ, π, O, R, ma _ _ _ _ (fun x π1 q1 vx H1 s1 r1 => ⟨ρ, π1, O, R.step s1, mb _ _ _ _ (fun y π2 q2 vy H2 s2 r2 => ?_) q1⟩) q⟩
  refine hk.to O H2 vx vy x y _ ((R.step s1).step s2).dom (r1.mono ((R.step s1).hide_stp s2)) r2 (hk.mono _ _ _ _ (fun d q3 v H' e3 r3 => ?_) q2)
  obtain ⟨c, e, q3⟩ := q3
  subst e
  refine ⟨c, r3.bl_iff, ?_⟩
  have s3 := (s1.trans s2).trans (((R.step s1).step s2).ex_stp e3)
  cases c with
  | false => exact q3 _ _ s3 (.bl false)
  | true =>
    refine ⟨ρ, π2, O, R.step s3, mc _ _ _ _ (fun w π3 q4 vw H4 s4 r4 => ?_) q3⟩
    refine hk'.to O H4 vy vw y w Q ((R.step s3).step s4).dom (r2.mono ((hide_mono e3).trans ((R.step s3).hide_stp s4))) r4 (hk'.mono _ _ _ _ (fun d q5 v H5 e5 r5 => ?_) q4)
    exact q5 v H5 ((s3.trans s4).trans (((R.step s3).step s4).ex_stp e5)) r5
theorem dChain_mono {k k' : D → D → KD → Prop} (mk : ∀ dx dy Q Q', (∀ d, Q d → Q' d) → k dx dy Q → k dx dy Q') (mk' : ∀ dx dy Q Q', (∀ d, Q d → Q' d) → k' dx dy Q → k' dx dy Q')
    (ma : ∀ ρ π Q Q', (∀ d π', Q d π' → Q' d π') → f ρ π Q → f ρ π Q') (mb : ∀ ρ π Q Q', (∀ d π', Q d π' → Q' d π') → g ρ π Q → g ρ π Q') (mc : ∀ ρ π Q Q', (∀ d π', Q d π' → Q' d π') → h ρ π Q → h ρ π Q') :
    ∀ ρ π Q Q', (∀ d π', Q d π' → Q' d π') → dChain k k' f g h ρ π Q → dChain k k' f g h ρ π Q' := fun ρ π Q Q' q h0 =>
  ma _ _ _ _ (fun x π1 h1 => mb _ _ _ _ (fun y π2 h2 => mk _ _ _ _ (fun d ⟨c, e, h3⟩ => ⟨c, e, by
    cases c with
    | true => exact mc _ _ _ _ (fun w π3 h4 => mk' _ _ _ _ (fun d h5 => q _ _ h5) h4) h3
    | false => exact q _ _ h3⟩) h2) h1) h0
theorem de_chain {op op' : CmpOp} {r r' : R2} {k k' : D → D → KD → Prop} (ho : OpR X (compareOp op) r) (ho' : OpR X (compareOp op') r') (hk : D2 X.K C r k) (hk' : D2 X.K C r' k') (ha : DE X C a f) (hb : DE X C b g) (hc : DE X C c h)
    (hm : lastMarks [op, op'] [b, c] = false := by with_unfolding_all rfl) : DE X C (.Compare a [op, op'] [b, c] pos) (dChain k k' f g h) where
  pe := fun F => pe_weak (pe_chain ho ho' (ha.pe F) (hb.pe F) (hc.pe F) hm) fun σ H Q q => tChain_of hk hk' ha.mono hb.mono hc.mono q
  mono := dChain_mono hk.mono hk'.mono ha.mono hb.mono hc.mono
theorem dt_chain {op op' : CmpOp} {r r' : R2} {k k' : D → D → KD → Prop} (ho : OpR X (compareOp op) r) (ho' : OpR X (compareOp op') r') (hk : D2 X.K C r k) (hk' : D2 X.K C r' k') (ha : DE X C a f) (hb : DE X C b g) (hc : DE X C c h)
    (hm : lastMarks [op, op'] [b, c] = false := by with_unfolding_all rfl) : DT X C (.Compare a [op, op'] [b, c] pos) (dTst (dChain k k' f g h)) where
  pt := fun F => pt_weak (pt_chain ho ho' (ha.pe F) (hb.pe F) (hc.pe F) hm) fun σ H Q ⟨ρ, π, O, R, q⟩ => by
    refine tChain_of (F := F) hk hk' ha.mono hb.mono hc.mono ?_
    exact ⟨ρ, π, O, R, dChain_mono hk.mono hk'.mono ha.mono hb.mono hc.mono _ _ _ _ (fun d π1 ⟨b, e, q1⟩ v H1 s1 r1 => by
      subst e
      exact ⟨b, r1.bl_iff, q1 H1 s1⟩) q⟩
  mono := dTst_mono (dChain_mono hk.mono hk'.mono ha.mono hb.mono hc.mono)

/-! ### built-in calls -/
@[simp] def dCall (k : List D → KD → Prop) (f : DTa) : DTe := fun ρ π Q => f ρ π fun ds π1 => k ds fun d => Q d π1
theorem tCB_of {F : Fr} {K : PySem.W.Frag} {r : List V → Hp → VK → Prop} {k : List D → KD → Prop} (hk : DC K C r k) (ma : ∀ ρ π Q Q', (∀ d π', Q d π' → Q' d π') → fa ρ π Q → fa ρ π Q') {σ : St} {H : Hp} {Q : VK} (q : tE K C F (dCall k fa) σ H Q) : tCB r (tA K C F fa) σ H Q := by
  obtain ⟨ρ, π, O, R, q⟩ := q
  refine ⟨ρ, π, O, R, ma _ _ _ _ (fun ds π1 q1 vs H1 s1 r1 => ?_) q⟩
  refine hk.to O H1 vs ds Q (R.step s1).dom r1 (hk.mono _ _ _ (fun d q2 v H2 e2 r2 => ?_) q1)
  exact q2 v H2 (s1.trans ((R.step s1).ex_stp e2)) r2
theorem dCall_mono {k : List D → KD → Prop} (mk : ∀ ds Q Q', (∀ d, Q d → Q' d) → k ds Q → k ds Q') (ma : ∀ ρ π Q Q', (∀ d π', Q d π' → Q' d π') → fa ρ π Q → fa ρ π Q') : ∀ ρ π Q Q', (∀ d π', Q d π' → Q' d π') → dCall k fa ρ π Q → dCall k fa ρ π Q' := fun ρ π Q Q' q h =>
  ma _ _ _ _ (fun ds π1 h1 => mk _ _ _ (fun d h2 => q _ _ h2) h1) h
theorem de_callB {x : Str} {p : Pos} {id : String} {r : List V → Hp → VK → Prop} {k : List D → KD → Prop} (hc : CallR X (.builtin id) r) (hk : DC X.K C r k) (hg : Gl X x) (hm : X.mg x = none) (hv : bootBuiltins x = some (.builtin id)) (ha : DA X C (e :: es) fa)
    (hn : x ≠ "__name__" := by decide) (hdb : (x == ("__debug__" : Str)) = false := by decide) (he : starEach (e :: es) X.env = (false, eval e X.env) :: starEach es X.env := by rfl) (hpl : (backTo pos (starEach es X.env)).any (·.1) = false := by rfl) :
    DE X C (.Call (.Name x p) (e :: es) [] pos) (dCall k fa) where
  pe := fun F => pe_weak (pe_callB hc hg hm hv (ha.pa F) hn hdb he hpl) fun σ H Q q => tCB_of hk ha.mono q
  mono := dCall_mono hk.mono ha.mono
theorem de_callTy {x : Str} {p : Pos} {T : String} {r : List V → Hp → VK → Prop} {k : List D → KD → Prop} (hc : CallR X (.type T) r) (hk : DC X.K C r k) (hg : Gl X x) (hm : X.mg x = none) (hv : bootBuiltins x = some (.type T)) (ha : DA X C (e :: es) fa)
    (hn : x ≠ "__name__" := by decide) (hdb : (x == ("__debug__" : Str)) = false := by decide) (he : starEach (e :: es) X.env = (false, eval e X.env) :: starEach es X.env := by rfl) (hpl : (backTo pos (starEach es X.env)).any (·.1) = false := by rfl) :
    DE X C (.Call (.Name x p) (e :: es) [] pos) (dCall k fa) where
  pe := fun F => pe_weak (pe_callTy hc hg hm hv (ha.pa F) hn hdb he hpl) fun σ H Q q => tCB_of hk ha.mono q
  mono := dCall_mono hk.mono ha.mono
end
end Kp
set_option maxRecDepth 100000
set_option maxHeartbeats 2000000
/-! Dl3: operators, indices, slices, built-in calls, calls of the text's defs, over data -/
namespace Kp
open PySem PySem.Spec L2

theorem D2.or {K : PySem.W.Frag} {C : Addr} {r r' : R2} {k k' : D → D → KD → Prop} (h : D2 K C r k) (h' : D2 K C r' k') : D2 K C (fun x y H Q => r x y H Q ∨ r' x y H Q) (fun x y Q => k x y Q ∨ k' x y Q) where
  to := fun O H x y dx dy Q dm rx ry q => by
    rcases q with q | q
    · exact .inl (h.to O H x y dx dy Q dm rx ry q)
    · exact .inr (h'.to O H x y dx dy Q dm rx ry q)
  mono := fun dx dy Q Q' q z => by
    rcases z with z | z
    · exact .inl (h.mono _ _ _ _ q z)
    · exact .inr (h'.mono _ _ _ _ q z)

section
variable {K : PySem.W.Frag} {C : Addr}
/-! ### ints -/
@[simp] def kI (c : Int → Int → Prop) (g : Int → Int → D) : D → D → KD → Prop := fun x y Q => ∃ i j, x = .int i ∧ y = .int j ∧ c i j ∧ Q (g i j)
@[simp] def kI0 (g : Int → Int → D) : D → D → KD → Prop := fun x y Q => ∃ i j, x = .int i ∧ y = .int j ∧ Q (g i j)
theorem d2_I {c : Int → Int → Prop} {g : Int → Int → V} {g' : Int → Int → D} (hg : ∀ i j H, Rep K C H (g i j) (g' i j)) : D2 K C (rI c g) (kI c g') where
  to := fun O H x y dx dy Q dm rx ry ⟨i, j, e1, e2, h, q⟩ => by
    subst e1 e2
    exact ⟨i, j, rx.int_iff, ry.int_iff, h, q _ H (Ex.refl H) (hg i j _)⟩
  mono := fun dx dy Q Q' q ⟨i, j, e1, e2, h, z⟩ => ⟨i, j, e1, e2, h, q _ z⟩
theorem d2_I0 {g : Int → Int → V} {g' : Int → Int → D} (hg : ∀ i j H, Rep K C H (g i j) (g' i j)) : D2 K C (rI0 g) (kI0 g') where
  to := fun O H x y dx dy Q dm rx ry ⟨i, j, e1, e2, q⟩ => by
    subst e1 e2
    exact ⟨i, j, rx.int_iff, ry.int_iff, q _ H (Ex.refl H) (hg i j _)⟩
  mono := fun dx dy Q Q' q ⟨i, j, e1, e2, z⟩ => ⟨i, j, e1, e2, q _ z⟩
abbrev kAddI := kI0 fun i j => .int (i + j)
abbrev kSubI := kI0 fun i j => .int (i - j)
abbrev kMulI := kI CMul fun i j => .int (i * j)
abbrev kModI := kI (fun _ j => 0 < j) fun i j => .int (i % j)
abbrev kDivI := kI CDiv fun i j => .int (i / j)
abbrev kPowI := kI CPow fun i j => .int (i ^ j.toNat)
abbrev kLt := kI0 fun i j => .bl (decide (i < j))
abbrev kLe := kI0 fun i j => .bl (decide (i ≤ j))
abbrev kGt := kI0 fun i j => .bl (decide (j < i))
abbrev kGe := kI0 fun i j => .bl (decide (j ≤ i))
theorem d2_addI : D2 K C (rI0 fun i j => .int (i + j)) kAddI := d2_I0 fun i j _ => .int _
theorem d2_subI : D2 K C (rI0 fun i j => .int (i - j)) kSubI := d2_I0 fun i j _ => .int _
theorem d2_mulI : D2 K C (rI CMul fun i j => .int (i * j)) kMulI := d2_I fun i j _ => .int _
theorem d2_modI : D2 K C (rI (fun _ j => 0 < j) fun i j => .int (i % j)) kModI := d2_I fun i j _ => .int _
theorem d2_divI : D2 K C (rI CDiv fun i j => .int (i / j)) kDivI := d2_I fun i j _ => .int _
theorem d2_powI : D2 K C (rI CPow fun i j => .int (i ^ j.toNat)) kPowI := d2_I fun i j _ => .int _
theorem d2_lt : D2 K C (rI0 fun i j => .bl (decide (i < j))) kLt := d2_I0 fun i j _ => .bl _
theorem d2_le : D2 K C (rI0 fun i j => .bl (decide (i ≤ j))) kLe := d2_I0 fun i j _ => .bl _
theorem d2_gt : D2 K C (rI0 fun i j => .bl (decide (j < i))) kGt := d2_I0 fun i j _ => .bl _
theorem d2_ge : D2 K C (rI0 fun i j => .bl (decide (j ≤ i))) kGe := d2_I0 fun i j _ => .bl _

/-! ### texts, tuples, lists glued -/
@[simp] def kCatS : D → D → KD → Prop := fun x y Q => ∃ s t, x = .str s ∧ y = .str t ∧ s.length + t.length ≤ 1000000 ∧ Q (.str (s ++ t))
@[simp] def kCatT : D → D → KD → Prop := fun x y Q => ∃ s t, x = .tup s ∧ y = .tup t ∧ s.length + t.length ≤ 1000000 ∧ Q (.tup (s ++ t))
@[simp] def kCatL : D → D → KD → Prop := fun x y Q => ∃ s t, x = .lst s ∧ y = .lst t ∧ s.length + t.length ≤ 1000000 ∧ Q (.lst (s ++ t))
theorem d2_catS : D2 K C (fun x y H Q => ∃ i j, x = .str i ∧ y = .str j ∧ i.length + j.length ≤ sizeLine ∧ Q (.str (i ++ j)) H) kCatS where
  to := fun O H x y dx dy Q dm rx ry ⟨s, t, e1, e2, h, q⟩ => by
    subst e1 e2
    exact ⟨s, t, rx.str_iff, ry.str_iff, big_line h, q _ H (Ex.refl H) (.str _)⟩
  mono := fun dx dy Q Q' q ⟨s, t, e1, e2, h, z⟩ => ⟨s, t, e1, e2, h, q _ z⟩
theorem d2_catT : D2 K C (rCatA K) kCatT where
  to := fun O H x y dx dy Q dm rx ry ⟨s, t, e1, e2, h, q⟩ => by
    subst e1 e2
    obtain ⟨a, vs, rfl, h1, r1⟩ := rx.tup_iff
    obtain ⟨b, ws, rfl, h2, r2⟩ := ry.tup_iff
    refine ⟨a, b, vs, ws, rfl, rfl, ex_t hide_ex h1, ex_t hide_ex h2, big_line (by rw [r1.length, r2.length]; exact h), fun e => ?_, fun _ e => ?_, fun _ _ p hp => ?_⟩
    · have es : s = [] := by
        have := r1.length; rw [e] at this; exact List.eq_nil_of_length_eq_zero this.symm
      subst es
      exact q _ H (Ex.refl H) ry
    · have et : t = [] := by
        have := r2.length; rw [e] at this; exact List.eq_nil_of_length_eq_zero this.symm
      subst et
      rw [List.append_nil] at q
      exact q _ H (Ex.refl H) rx
    · exact q _ _ (Ex.new hp) (new_tup dm hp (r1.append r2))
  mono := fun dx dy Q Q' q ⟨s, t, e1, e2, h, z⟩ => ⟨s, t, e1, e2, h, q _ z⟩
theorem d2_catL : D2 K C rCat kCatL where
  to := fun O H x y dx dy Q dm rx ry ⟨s, t, e1, e2, h, q⟩ => by
    subst e1 e2
    obtain ⟨a, vs, rfl, h1, r1⟩ := rx.lst_iff
    obtain ⟨b, ws, rfl, h2, r2⟩ := ry.lst_iff
    exact ⟨a, b, vs, ws, rfl, rfl, hide_ex _ _ h1, hide_ex _ _ h2, big_line (by rw [r1.length, r2.length]; exact h), fun p hp => q _ _ (Ex.new hp) (new_lst dm hp (r1.append r2))⟩
  mono := fun dx dy Q Q' q ⟨s, t, e1, e2, h, z⟩ => ⟨s, t, e1, e2, h, q _ z⟩

/-! ### == of scalars -/
def kEqS (neg : Bool) : D → D → KD → Prop := fun x y Q => (∃ i j, x = .int i ∧ y = .int j ∧ Q (.bl (if neg then !decide (i = j) else decide (i = j)))) ∨ ∃ s t, x = .str s ∧ y = .str t ∧ Q (.bl (if neg then !decide (s = t) else decide (s = t)))
@[simp] theorem kEqS_ii {neg : Bool} {i j : Int} {Q : KD} : kEqS neg (.int i) (.int j) Q = Q (.bl (if neg then !decide (i = j) else decide (i = j))) := by simp [kEqS]
@[simp] theorem kEqS_ss {neg : Bool} {i j : Str} {Q : KD} : kEqS neg (.str i) (.str j) Q = Q (.bl (if neg then !decide (i = j) else decide (i = j))) := by simp [kEqS]
theorem d2_eqS : D2 K C rEq (kEqS false) where
  to := fun O H x y dx dy Q dm rx ry z => by
    rcases z with ⟨i, j, e1, e2, q⟩ | ⟨i, j, e1, e2, q⟩
    · subst e1 e2
      rw [rx.int_iff, ry.int_iff]
      refine ⟨rfl, ?_⟩
      have e : decide (V.int i = V.int j) = decide (i = j) := by simp
      rw [e]
      exact q _ H (Ex.refl H) (.bl _)
    · subst e1 e2
      rw [rx.str_iff, ry.str_iff]
      refine ⟨rfl, ?_⟩
      have e : decide (V.str i = V.str j) = decide (i = j) := by simp
      rw [e]
      exact q _ H (Ex.refl H) (.bl _)
  mono := fun dx dy Q Q' q z => by
    rcases z with ⟨i, j, e1, e2, z⟩ | ⟨i, j, e1, e2, z⟩
    · exact .inl ⟨i, j, e1, e2, q _ z⟩
    · exact .inr ⟨i, j, e1, e2, q _ z⟩
theorem d2_neS : D2 K C rNe (kEqS true) where
  to := fun O H x y dx dy Q dm rx ry z => by
    rcases z with ⟨i, j, e1, e2, q⟩ | ⟨i, j, e1, e2, q⟩
    · subst e1 e2
      rw [rx.int_iff, ry.int_iff]
      refine ⟨rfl, ?_⟩
      have e : decide (V.int i = V.int j) = decide (i = j) := by simp
      rw [e]
      exact q _ H (Ex.refl H) (.bl _)
    · subst e1 e2
      rw [rx.str_iff, ry.str_iff]
      refine ⟨rfl, ?_⟩
      have e : decide (V.str i = V.str j) = decide (i = j) := by simp
      rw [e]
      exact q _ H (Ex.refl H) (.bl _)
  mono := fun dx dy Q Q' q z => by
    rcases z with ⟨i, j, e1, e2, z⟩ | ⟨i, j, e1, e2, z⟩
    · exact .inl ⟨i, j, e1, e2, q _ z⟩
    · exact .inr ⟨i, j, e1, e2, q _ z⟩

/-! ### is None, is not None -/
def isNon : D → Bool
  | .non => true
  | _ => false
@[simp] theorem isNon_non : isNon .non = true := rfl
@[simp] theorem isNon_int (i : Int) : isNon (.int i) = false := rfl
@[simp] theorem isNon_bl (i : Bool) : isNon (.bl i) = false := rfl
@[simp] theorem isNon_str (i : Str) : isNon (.str i) = false := rfl
@[simp] theorem isNon_tup (i : List D) : isNon (.tup i) = false := rfl
@[simp] theorem isNon_lst (i : List D) : isNon (.lst i) = false := rfl
theorem isNon_of {H : Hp} {v : V} {d : D} (r : Rep K C H v d) : decide (v = .non) = isNon d := by
  cases r <;> rfl
@[simp] def kIsN (neg : Bool) : D → D → KD → Prop := fun x y Q => y = .non ∧ Q (.bl (if neg then !isNon x else isNon x))
theorem d2_isN : D2 K C (fun x y H Q => y = .non ∧ Q (.bl (decide (x = .non))) H) (kIsN false) where
  to := fun O H x y dx dy Q dm rx ry ⟨e, q⟩ => by
    subst e
    refine ⟨ry.non_iff, ?_⟩
    rw [isNon_of rx]
    exact q _ H (Ex.refl H) (.bl _)
  mono := fun dx dy Q Q' q ⟨e, z⟩ => ⟨e, q _ z⟩
theorem d2_notN : D2 K C (fun x y H Q => y = .non ∧ Q (.bl (!decide (x = .non))) H) (kIsN true) where
  to := fun O H x y dx dy Q dm rx ry ⟨e, q⟩ => by
    subst e
    refine ⟨ry.non_iff, ?_⟩
    rw [isNon_of rx]
    exact q _ H (Ex.refl H) (.bl _)
  mono := fun dx dy Q Q' q ⟨e, z⟩ => ⟨e, q _ z⟩

/-! ### in -/
/-- one sign in a text -/
@[simp] def kInS : D → D → KD → Prop := fun x y Q => ∃ (c : Nat) (z : Str), x = .str ⟨#[c]⟩ ∧ y = .str z ∧ Q (.bl (decide (c ∈ z.cps.toList)))
theorem d2_inS : D2 K C (fun x y H Q => ∃ (c : Nat) (z : Str), x = .str ⟨#[c]⟩ ∧ y = .str z ∧ Q (.bl (decide (c ∈ z.cps.toList))) H) kInS where
  to := fun O H x y dx dy Q dm rx ry ⟨c, z, e1, e2, q⟩ => by
    subst e1 e2
    exact ⟨c, z, rx.str_iff, ry.str_iff, q _ H (Ex.refl H) (.bl _)⟩
  mono := fun dx dy Q Q' q ⟨c, z, e1, e2, h⟩ => ⟨c, z, e1, e2, q _ h⟩
/-- a text in a tuple of texts -/
@[simp] def kInT (neg : Bool) : D → D → KD → Prop := fun x y Q => ∃ (s : Str) (zs : List Str), x = .str s ∧ y = .tup (zs.map D.str) ∧ Q (.bl (if neg then !decide (s ∈ zs) else decide (s ∈ zs)))
theorem reps_strs {H : Hp} : ∀ {vs : List V} {zs : List Str}, Reps K C H vs (zs.map D.str) → vs = zs.map V.str
  | _, [], h => by cases h; rfl
  | _, z :: zs, h => by
    cases h with
    | cons h r => rw [h.str_iff, reps_strs r] <;> rfl
theorem flat_strs (zs : List Str) : (zs.map V.str).all flatV = true := by
  rw [List.all_map]
  exact List.all_eq_true.mpr fun z _ => rfl
theorem inV_strs (s : Str) : ∀ zs : List Str, inV (.str s) (zs.map V.str) = decide (s ∈ zs)
  | [] => by simp [inV]
  | z :: zs => by
    have ih := inV_strs s zs
    unfold inV at ih ⊢
    rw [List.map_cons, List.any_cons, ih]
    have e : eqV (.str z) (.str s) = (z == s) := rfl
    rw [e]
    by_cases h : z = s
    · subst h; simp
    · have h' : ¬ s = z := fun q => h q.symm
      simp [h, h']
theorem d2_inT (neg : Bool) : D2 K C (rIn K neg) (kInT neg) where
  to := fun O H x y dx dy Q dm rx ry ⟨s, zs, e1, e2, q⟩ => by
    subst e1 e2
    obtain ⟨a, vs, rfl, h1, r1⟩ := ry.tup_iff
    rw [reps_strs r1] at h1
    rw [rx.str_iff]
    refine ⟨a, _, rfl, .inr (ex_t hide_ex h1), rfl, flat_strs zs, ?_⟩
    rw [inV_strs]
    exact q _ H (Ex.refl H) (.bl _)
  mono := fun dx dy Q Q' q ⟨c, z, e1, e2, h⟩ => ⟨c, z, e1, e2, q _ h⟩

/-! ### items -/
theorem atI_rep {H : Hp} {vs : List V} {ds : List D} {i : Int} {d : D} (r : Reps K C H vs ds) (h : atI ds i = some d) : ∃ v, atI vs i = some v ∧ Rep K C H v d := by
  unfold atI at h ⊢
  rw [r.length]
  cases e : ixN ds.length i with
  | none => rw [e] at h; cases h
  | some j =>
    rw [e] at h
    exact r.get h
def kIx : D → D → KD → Prop := fun x y Q => ∃ i, y = .int i ∧ ((∃ ds d, x = .tup ds ∧ atI ds i = some d ∧ Q d) ∨ (∃ ds d, x = .lst ds ∧ atI ds i = some d ∧ Q d) ∨ (∃ s c, x = .str s ∧ s.length ≤ 1000000 ∧ atI s.cps.toList i = some c ∧ Q (.str ⟨#[c]⟩)) ∨ ∃ ns z, x = .inp ns ∧ atI ns i = some z ∧ Q (.int z))
@[simp] theorem kIx_tup {ds : List D} {i : Int} {Q : KD} : kIx (.tup ds) (.int i) Q = ∃ d, atI ds i = some d ∧ Q d := by simp [kIx]
@[simp] theorem kIx_lst {ds : List D} {i : Int} {Q : KD} : kIx (.lst ds) (.int i) Q = ∃ d, atI ds i = some d ∧ Q d := by simp [kIx]
@[simp] theorem kIx_str {s : Str} {i : Int} {Q : KD} : kIx (.str s) (.int i) Q = (s.length ≤ 1000000 ∧ ∃ c, atI s.cps.toList i = some c ∧ Q (.str ⟨#[c]⟩)) := by simp [kIx]
@[simp] theorem kIx_inp {s : List Int} {i : Int} {Q : KD} : kIx (.inp s) (.int i) Q = ∃ c, atI s i = some c ∧ Q (.int c) := by simp [kIx]
theorem atI_ints {ns : List Int} {i z : Int} (h : atI ns i = some z) : atI (ns.map V.int) i = some (.int z) := by
  unfold atI at h ⊢
  rw [List.length_map]
  cases e : ixN ns.length i with
  | none => rw [e] at h; cases h
  | some j =>
    rw [e] at h
    have h' : ns[j]? = some z := h
    show (ns.map V.int)[j]? = _
    rw [List.getElem?_map, h']; rfl
theorem d2_ix : D2 K C (rIx K) kIx where
  to := fun O H x y dx dy Q dm rx ry ⟨i, e, z⟩ => by
    subst e
    rw [ry.int_iff]
    rcases z with ⟨ds, d, e, h, q⟩ | ⟨ds, d, e, h, q⟩ | ⟨s, c, e, hs, h, q⟩ | ⟨ns, z, e, h, q⟩
    · subst e
      obtain ⟨a, vs, rfl, h1, r1⟩ := rx.tup_iff
      obtain ⟨v, h2, r2⟩ := atI_rep r1 h
      exact .inr (.inl ⟨a, vs, i, v, rfl, rfl, ex_t hide_ex h1, h2, q v H (Ex.refl H) r2⟩)
    · subst e
      obtain ⟨a, vs, rfl, h1, r1⟩ := rx.lst_iff
      obtain ⟨v, h2, r2⟩ := atI_rep r1 h
      exact .inl ⟨a, vs, i, v, rfl, rfl, SqL.of (hide_ex _ _ h1), h2, q v H (Ex.refl H) r2⟩
    · subst e
      rw [rx.str_iff]
      exact .inr (.inr ⟨s, i, c, rfl, rfl, big_line hs, h, q _ H (Ex.refl H) (.str _)⟩)
    · subst e
      cases rx with
      | inp h1 => exact .inl ⟨_, _, i, .int z, rfl, rfl, ex_l hide_ex h1, atI_ints h, q _ H (Ex.refl H) (.int _)⟩
  mono := fun dx dy Q Q' q ⟨i, e, z⟩ => ⟨i, e, by
    rcases z with ⟨ds, d, e, h, z⟩ | ⟨ds, d, e, h, z⟩ | ⟨s, c, e, hs, h, z⟩ | ⟨ns, w, e, h, z⟩
    · exact .inl ⟨ds, d, e, h, q _ z⟩
    · exact .inr (.inl ⟨ds, d, e, h, q _ z⟩)
    · exact .inr (.inr (.inl ⟨s, c, e, hs, h, q _ z⟩))
    · exact .inr (.inr (.inr ⟨ns, w, e, h, q _ z⟩))⟩
/-- a written table with text keys: what it holds (fs) -/
@[simp] def kTab (a : Addr) (fs : List (Str × D)) : D → D → KD → Prop := fun x y Q => ∃ s d, x = .adr a ∧ y = .str s ∧ fs.lookup s = some d ∧ Q d
theorem d2_tab {w : World} {a : Addr} {fs : List (Str × D)} (h : ∀ s d, fs.lookup s = some d → ∃ v, KDct K w a s v ∧ ∀ H, Rep K C H v d) : D2 K C (rIxD K w) (kTab a fs) where
  to := fun O H x y dx dy Q dm rx ry ⟨s, d, e1, e2, e3, q⟩ => by
    subst e1 e2
    obtain ⟨v, kd, r⟩ := h s d e3
    cases rx
    rw [ry.str_iff]
    exact ⟨a, s, v, rfl, rfl, kd, q v H (Ex.refl H) (r _)⟩
  mono := fun dx dy Q Q' q ⟨s, d, e1, e2, e3, z⟩ => ⟨s, d, e1, e2, e3, q _ z⟩
/-- a key that is in a written table -/
@[simp] def kInTab (neg : Bool) (a : Addr) (fs : List (Str × D)) : D → D → KD → Prop := fun x y Q => ∃ s d, x = .str s ∧ y = .adr a ∧ fs.lookup s = some d ∧ Q (.bl (!neg))
theorem d2_inTab {a : Addr} {fs : List (Str × D)} (h : ∀ s d, fs.lookup s = some d → ∃ u, PySem.W.nsIn K a s = some (some u)) :
    D2 K C (fun x y H Q => ∃ (z : Str) (r : Option Value), x = .str z ∧ y = .ref a ∧ PySem.W.nsIn K a z = some r ∧ Q (.bl r.isSome) H) (kInTab false a fs) where
  to := fun O H x y dx dy Q dm rx ry ⟨s, d, e1, e2, e3, q⟩ => by
    subst e1 e2
    obtain ⟨u, hu⟩ := h s d e3
    cases ry
    rw [rx.str_iff]
    exact ⟨s, some u, rfl, rfl, hu, q _ H (Ex.refl H) (.bl _)⟩
  mono := fun dx dy Q Q' q ⟨s, d, e1, e2, e3, z⟩ => ⟨s, d, e1, e2, e3, q _ z⟩
theorem d2_notInTab {a : Addr} {fs : List (Str × D)} (h : ∀ s d, fs.lookup s = some d → ∃ u, PySem.W.nsIn K a s = some (some u)) :
    D2 K C (fun x y H Q => ∃ (z : Str) (r : Option Value), x = .str z ∧ y = .ref a ∧ PySem.W.nsIn K a z = some r ∧ Q (.bl (!r.isSome)) H) (kInTab true a fs) where
  to := fun O H x y dx dy Q dm rx ry ⟨s, d, e1, e2, e3, q⟩ => by
    subst e1 e2
    obtain ⟨u, hu⟩ := h s d e3
    cases ry
    rw [rx.str_iff]
    exact ⟨s, some u, rfl, rfl, hu, q _ H (Ex.refl H) (.bl _)⟩
  mono := fun dx dy Q Q' q ⟨s, d, e1, e2, e3, z⟩ => ⟨s, d, e1, e2, e3, q _ z⟩

/-! ### == of data at any depth -/
mutual
def py : D → PyData
  | .non => .none
  | .bl b => .bool b
  | .int i => .int i
  | .str s => .str s
  | .tup ds => .tuple (pys ds)
  | .lst ds => .list (pys ds)
  | .gnd _ _ => .none
  | .adr _ => .none
  | .ty _ => .none
  | .inp _ => .none
def pys : List D → List PyData
  | [] => []
  | d :: ds => py d :: pys ds
end
mutual
/-- data that == compares: nothing but None, bools, ints, texts, tuples, lists -/
def dat : D → Bool
  | .non => true
  | .bl _ => true
  | .int _ => true
  | .str s => PyData.strOk s
  | .tup ds => dats ds
  | .lst ds => dats ds
  | .gnd _ _ => false
  | .adr _ => false
  | .ty _ => false
  | .inp _ => false
def dats : List D → Bool
  | [] => true
  | d :: ds => dat d && dats ds
end
mutual
def dep : D → Nat
  | .tup ds => deps ds + 1
  | .lst ds => deps ds + 1
  | _ => 0
def deps : List D → Nat
  | [] => 0
  | d :: ds => max (dep d) (deps ds)
end
mutual
theorem dp_of {H H' : Hp} (e : Ex H H') : ∀ {v : V} {d : D}, Rep K C H v d → dat d = true → Dp K H' v (py d)
  | _, _, .non, _ => .non
  | _, _, .bl b, _ => .bl b
  | _, _, .int i, _ => .int i
  | _, _, .str s, _ => .str s
  | _, _, .tup h r, q => .tup (ex_t e h) (dps_of e r q)
  | _, _, .lst h r, q => .lst (SqL.of (e _ _ h)) (dps_of e r q)
  | _, _, .gnd _ _ _ _ _ _ _, q => by cases q
  | _, _, .adr _, q => by cases q
  | _, _, .ty _, q => by cases q
  | _, _, .inp _, q => by cases q
theorem dps_of {H H' : Hp} (e : Ex H H') : ∀ {vs : List V} {ds : List D}, Reps K C H vs ds → dats ds = true → DpAll K H' vs (pys ds)
  | _, _, .nil, _ => .nil
  | _, _, .cons (d := d) (ds := ds) h r, q => by
    have q' : (dat d && dats ds) = true := q
    rw [Bool.and_eq_true] at q'
    exact .cons (dp_of e h q'.1) (dps_of e r q'.2)
end
mutual
theorem lay_py : ∀ d : D, dat d = true → (py d).canLay0 = true
  | .non, _ => rfl
  | .bl _, _ => rfl
  | .int _, _ => rfl
  | .str s, h => by simp only [py, PyData.canLay0]; exact h
  | .tup ds, h => by simp only [py, PyData.canLay0]; exact lay_pys ds h
  | .lst ds, h => by simp only [py, PyData.canLay0]; exact lay_pys ds h
theorem lay_pys : ∀ ds : List D, dats ds = true → PyData.canLayAll0 (pys ds) = true
  | [], _ => rfl
  | d :: ds, h => by
    have q' : (dat d && dats ds) = true := h
    rw [Bool.and_eq_true] at q'
    show ((py d).canLay0 && PyData.canLayAll0 (pys ds)) = true
    rw [lay_py d q'.1, lay_pys ds q'.2] <;> rfl
end
mutual
theorem dep_py : ∀ d : D, (py d).depth ≤ dep d
  | .non => Nat.le_refl _
  | .bl _ => Nat.le_refl _
  | .int _ => Nat.le_refl _
  | .str s => Nat.le_refl _
  | .tup ds => by
    have := dep_pys ds
    simp only [py, PyData.depth, dep]; omega
  | .lst ds => by
    have := dep_pys ds
    simp only [py, PyData.depth, dep]; omega
  | .gnd _ _ => Nat.le_refl _
  | .adr _ => Nat.le_refl _
  | .ty _ => Nat.le_refl _
  | .inp _ => Nat.le_refl _
theorem dep_pys : ∀ ds : List D, PyData.depthAll (pys ds) ≤ deps ds
  | [] => Nat.le_refl _
  | d :: ds => by
    have h1 := dep_py d
    have h2 := dep_pys ds
    simp only [pys, PyData.depthAll, deps]; omega
end
theorem shaped_py {d : D} (h : dat d = true) (h2 : dep d ≤ 64) : SeqAt.shaped (py d) = true := by
  show ((py d).canLay0 && decide ((py d).depth ≤ 64)) = true
  rw [lay_py d h, decide_eq_true (Nat.le_trans (dep_py d) h2)] <;> rfl
def eqd (x y : D) : Bool := PyData.eqv (py x) (py y)
@[simp] def kEqD (neg : Bool) : D → D → KD → Prop := fun x y Q => dat x = true ∧ dat y = true ∧ dep x ≤ 64 ∧ dep y ≤ 64 ∧ Q (.bl (if neg then !eqd x y else eqd x y))
theorem d2_eqD : D2 K C (rEqD K) (kEqD false) where
  to := fun O H x y dx dy Q dm rx ry ⟨h1, h2, h3, h4, q⟩ => ⟨py dx, py dy, dp_of hide_ex rx h1, dp_of hide_ex ry h2, shaped_py h1 h3, shaped_py h2 h4, q _ H (Ex.refl H) (.bl _)⟩
  mono := fun dx dy Q Q' q ⟨h1, h2, h3, h4, z⟩ => ⟨h1, h2, h3, h4, q _ z⟩
theorem d2_neD : D2 K C (rNeD K) (kEqD true) where
  to := fun O H x y dx dy Q dm rx ry ⟨h1, h2, h3, h4, q⟩ => ⟨py dx, py dy, dp_of hide_ex rx h1, dp_of hide_ex ry h2, shaped_py h1 h3, shaped_py h2 h4, q _ H (Ex.refl H) (.bl _)⟩
  mono := fun dx dy Q Q' q ⟨h1, h2, h3, h4, z⟩ => ⟨h1, h2, h3, h4, q _ z⟩
@[simp] def kInD (neg : Bool) : D → D → KD → Prop := fun x y Q => ∃ ds, y = .lst ds ∧ dat x = true ∧ dats ds = true ∧ dep x ≤ 64 ∧ deps ds + 1 ≤ 64 ∧ Q (.bl (if neg then !(ds.any fun z => eqd z x) else ds.any fun z => eqd z x))
theorem any_pys (x : D) : ∀ ds : List D, ((pys ds).any fun z => PyData.eqv z (py x)) = ds.any fun z => eqd z x
  | [] => rfl
  | d :: ds => by
    show (PyData.eqv (py d) (py x) || (pys ds).any fun z => PyData.eqv z (py x)) = (eqd d x || ds.any fun z => eqd z x)
    rw [any_pys x ds] <;> rfl
theorem d2_inD : D2 K C (rInD K) (kInD false) where
  to := fun O H x y dx dy Q dm rx ry ⟨ds, e, h1, h2, h3, h4, q⟩ => by
    subst e
    refine ⟨py dx, pys ds, dp_of hide_ex rx h1, dp_of hide_ex ry h2, shaped_py h1 h3, shaped_py (d := .lst ds) h2 h4, ?_⟩
    rw [any_pys]
    exact q _ H (Ex.refl H) (.bl _)
  mono := fun dx dy Q Q' q ⟨ds, e, h1, h2, h3, h4, z⟩ => ⟨ds, e, h1, h2, h3, h4, q _ z⟩
theorem d2_notInD : D2 K C (rNotInD K) (kInD true) where
  to := fun O H x y dx dy Q dm rx ry ⟨ds, e, h1, h2, h3, h4, q⟩ => by
    subst e
    refine ⟨py dx, pys ds, dp_of hide_ex rx h1, dp_of hide_ex ry h2, shaped_py h1 h3, shaped_py (d := .lst ds) h2 h4, ?_⟩
    rw [any_pys]
    exact q _ H (Ex.refl H) (.bl _)
  mono := fun dx dy Q Q' q ⟨ds, e, h1, h2, h3, h4, z⟩ => ⟨ds, e, h1, h2, h3, h4, q _ z⟩
end
end Kp
set_option maxRecDepth 100000
set_option maxHeartbeats 2000000
/-! Dl4: slices, built-in calls, isinstance, calls of the text's defs, over data -/
namespace Kp
open PySem PySem.Spec L2

/-! ### slices -/
def cutD (ds : List D) (lo hi : Option Int) : List D := (ds.drop (HT.sIx ds.length 0 lo)).take (HT.sIx ds.length ds.length hi - HT.sIx ds.length 0 lo)
theorem cut_whole {ds : List D} {lo hi : Option Int} (h : HT.sIx ds.length 0 lo = 0 ∧ HT.sIx ds.length ds.length hi = ds.length) : cutD ds lo hi = ds := by
  unfold cutD
  rw [h.1, h.2]
  simp
def kSl : D → Option Int → Option Int → KD → Prop := fun x lo hi Q => (∃ ds, x = .tup ds ∧ Q (.tup (cutD ds lo hi))) ∨ (∃ ds, x = .lst ds ∧ Q (.lst (cutD ds lo hi))) ∨ ∃ s, x = .str s ∧ s.length ≤ 1000000 ∧ Q (.str (cutS s lo hi))
@[simp] theorem kSl_tup {ds : List D} {lo hi : Option Int} {Q : KD} : kSl (.tup ds) lo hi Q = Q (.tup (cutD ds lo hi)) := by simp [kSl]
@[simp] theorem kSl_lst {ds : List D} {lo hi : Option Int} {Q : KD} : kSl (.lst ds) lo hi Q = Q (.lst (cutD ds lo hi)) := by simp [kSl]
@[simp] theorem kSl_str {s : Str} {lo hi : Option Int} {Q : KD} : kSl (.str s) lo hi Q = (s.length ≤ 1000000 ∧ Q (.str (cutS s lo hi))) := by simp [kSl]
abbrev rSl3 (K : PySem.W.Frag) : V → Option Int → Option Int → Hp → VK → Prop := fun x lo hi H Q => rSlL K x lo hi H Q ∨ (fun x lo hi H Q => rSlA K x lo hi H Q ∨ rSlS x lo hi H Q) x lo hi H Q
section
variable {X : Cx} {C : Addr} {a b e : Expr} {es : List Expr} {f g : DTe} {fa : DTa} {pos p2 : Pos} {lo hi : Option Expr}
theorem sl3 : SlR X (rSl3 X.K) := sl_list.or (sl_tupA.or sl_str)
theorem kSl_to {K : PySem.W.Frag} {O : List Addr} {H : Hp} {x : V} {d : D} {l u : Option Int} {Q : VK} (dm : Dm O H) (r : Rep K C (hide O H) x d) (h : kSl d l u (fun d => ∀ v H', Ex H H' → Rep K C (hide O H') v d → Q v H')) : rSl3 K x l u H Q := by
  rcases h with ⟨ds, e, q⟩ | ⟨ds, e, q⟩ | ⟨s, e, hs, q⟩
  · subst e
    obtain ⟨a, vs, rfl, h1, r1⟩ := r.tup_iff
    refine .inr (.inl ⟨a, vs, rfl, ex_t hide_ex h1, fun hw => ?_, fun _ p hp => ?_⟩)
    · rw [r1.length] at hw
      rw [cut_whole hw] at q
      exact q _ H (Ex.refl H) r
    · have e : cutV vs l u = (vs.drop (HT.sIx ds.length 0 l)).take (HT.sIx ds.length ds.length u - HT.sIx ds.length 0 l) := by unfold cutV; rw [r1.length]
      rw [e]
      exact q _ _ (Ex.new hp) (new_tup dm hp ((r1.drop _).take _))
  · subst e
    obtain ⟨a, vs, rfl, h1, r1⟩ := r.lst_iff
    refine .inl ⟨a, vs, rfl, SqL.of (hide_ex _ _ h1), fun p hp => ?_⟩
    have e : cutV vs l u = (vs.drop (HT.sIx ds.length 0 l)).take (HT.sIx ds.length ds.length u - HT.sIx ds.length 0 l) := by unfold cutV; rw [r1.length]
    rw [e]
    exact q _ _ (Ex.new hp) (new_lst dm hp ((r1.drop _).take _))
  · subst e
    rw [r.str_iff]
    exact .inr (.inr ⟨s, rfl, big_line hs, q _ H (Ex.refl H) (.str _)⟩)
theorem kSl_mono {d : D} {l u : Option Int} {Q Q' : KD} (q : ∀ d, Q d → Q' d) (h : kSl d l u Q) : kSl d l u Q' := by
  rcases h with ⟨ds, e, z⟩ | ⟨ds, e, z⟩ | ⟨s, e, hs, z⟩
  · exact .inl ⟨ds, e, q _ z⟩
  · exact .inr (.inl ⟨ds, e, q _ z⟩)
  · exact .inr (.inr ⟨s, e, hs, q _ z⟩)
abbrev DTo := DEnv → Pu → (Option Int → Pu → Prop) → Prop
def tOI (K : PySem.W.Frag) (C : Addr) (F : Fr) (f : DTo) : TO := fun σ H Q => ∃ ρ π O, RS K C F O H σ ρ π ∧ f ρ π fun oi π' => ∀ H', Stp π π' H H' → Q oi H'
structure DO (X : Cx) (C : Addr) (e : Option Expr) (f : DTo) : Prop where
  po : ∀ F, PO X e (tOI X.K C F f)
  mono : ∀ ρ π Q Q', (∀ d π', Q d π' → Q' d π') → f ρ π Q → f ρ π Q'
theorem po_weak {e : Option Expr} {t t' : TO} (h : PO X e t) (w : ∀ σ H Q, t' σ H Q → t σ H Q) : PO X e t' := ⟨fun pins s σ H Q I q => h.run pins s σ H Q I (w _ _ _ q)⟩
@[simp] def dNoP : DTo := fun _ π Q => Q none π
@[simp] def dPart (f : DTe) : DTo := fun ρ π Q => f ρ π fun d π1 => ∃ i, d = .int i ∧ Q (some i) π1
theorem do_none : DO X C none dNoP where
  po := fun F => po_weak po_none fun σ H Q ⟨ρ, π, O, R, q⟩ => q H (R.ex_stp (Ex.refl H))
  mono := fun ρ π Q Q' q h => q _ _ h
theorem do_some (h : DE X C e f) : DO X C (some e) (dPart f) where
  po := fun F => po_weak (po_some (h.pe F)) fun σ H Q ⟨ρ, π, O, R, q⟩ => ⟨ρ, π, O, R, h.mono _ _ _ _ (fun d π1 ⟨i, e, q1⟩ v H1 s1 r1 => by
    subst e
    exact ⟨i, r1.int_iff, q1 H1 s1⟩) q⟩
  mono := fun ρ π Q Q' q hh => h.mono _ _ _ _ (fun d π1 ⟨i, e, h1⟩ => ⟨i, e, q _ _ h1⟩) hh
@[simp] def dSl (f : DTe) (fl fu : DTo) : DTe := fun ρ π Q => f ρ π fun x π1 => fl ρ π1 fun l π2 => fu ρ π2 fun u π3 => kSl x l u fun d => Q d π3
theorem de_slice {fl fu : DTo} (he : DE X C e f) (hl : DO X C lo fl) (hu : DO X C hi fu) : DE X C (.Subscript e (.Slice lo hi none p2) pos) (dSl f fl fu) where
  pe := fun F => pe_weak (pe_slice sl3 (he.pe F) (hl.po F) (hu.po F)) fun σ H Q ⟨ρ, π, O, R, q⟩ =>
    ⟨ρ, π, O, R, he.mono _ _ _ _ (fun x π1 q1 v H1 s1 r1 => ⟨ρ, π1, O, R.step s1, hl.mono _ _ _ _ (fun l π2 q2 H2 s2 => ⟨ρ, π2, O, (R.step s1).step s2, hu.mono _ _ _ _ (fun u π3 q3 H3 s3 => by
      have R3 := ((R.step s1).step s2).step s3
      refine kSl_to (C := C) R3.dom (r1.mono (((R.step s1).hide_stp s2).trans (((R.step s1).step s2).hide_stp s3))) (kSl_mono (fun d q4 v4 H4 e4 r4 => ?_) q3)
      exact q4 v4 H4 (((s1.trans s2).trans s3).trans (R3.ex_stp e4)) r4) q2⟩) q1⟩) q⟩
  mono := fun ρ π Q Q' q h => he.mono _ _ _ _ (fun x π1 h1 => hl.mono _ _ _ _ (fun l π2 h2 => hu.mono _ _ _ _ (fun u π3 h3 => kSl_mono (fun d h4 => q _ _ h4) h3) h2) h1) h

/-! ### built-in calls -/
section
variable {K : PySem.W.Frag}
def lenD : D → Option Nat
  | .tup ds => some ds.length
  | .lst ds => some ds.length
  | .str s => some s.length
  | .inp ns => some ns.length
  | _ => none
@[simp] theorem lenD_tup (ds : List D) : lenD (.tup ds) = some ds.length := rfl
@[simp] theorem lenD_lst (ds : List D) : lenD (.lst ds) = some ds.length := rfl
@[simp] theorem lenD_str (s : Str) : lenD (.str s) = some s.length := rfl
@[simp] theorem lenD_inp (s : List Int) : lenD (.inp s) = some s.length := rfl
@[simp] def kLen : List D → KD → Prop := fun ds Q => ∃ d n, ds = [d] ∧ lenD d = some n ∧ n ≤ 1000000 ∧ Q (.int n)
theorem dc_len : DC K C (fun xs H Q => ∃ x n, xs = [x] ∧ LenV K x H n ∧ Q (.int n) H) kLen where
  to := fun O H vs ds Q dm r ⟨d, n, e, hn, hz, q⟩ => by
    subst e
    obtain ⟨v, rfl, rv⟩ := r.one
    refine ⟨v, n, rfl, ?_, q _ H (Ex.refl H) (.int _)⟩
    cases d with
    | tup es =>
      obtain ⟨a, ws, rfl, h1, r1⟩ := rv.tup_iff
      exact .inr ⟨ws, ex_t hide_ex h1, by rw [r1.length]; exact (Option.some.inj hn).symm⟩
    | lst es =>
      obtain ⟨a, ws, rfl, h1, r1⟩ := rv.lst_iff
      exact .inl ⟨ws, SqL.of (hide_ex _ _ h1), by rw [r1.length]; exact (Option.some.inj hn).symm⟩
    | str s =>
      rw [rv.str_iff]
      have e : s.length = n := Option.some.inj hn
      exact ⟨big_line (by omega), e.symm⟩
    | inp ns =>
      cases rv with
      | inp h1 => exact .inl ⟨_, ex_l hide_ex h1, by rw [List.length_map]; exact (Option.some.inj hn).symm⟩
    | _ => cases hn
  mono := fun ds Q Q' q ⟨d, n, e, hn, hz, z⟩ => ⟨d, n, e, hn, hz, q _ z⟩
@[simp] def kInt : List D → KD → Prop := fun ds Q => ∃ b, ds = [.bl b] ∧ Q (.int (if b then 1 else 0))
theorem dc_int : DC K C (fun xs H Q => (∃ i, xs = [.int i] ∧ Q (.int i) H) ∨ ∃ k, xs = [.bl k] ∧ Q (.int (if k then 1 else 0)) H) kInt where
  to := fun O H vs ds Q dm r ⟨b, e, q⟩ => by
    subst e
    obtain ⟨v, rfl, rv⟩ := r.one
    rw [rv.bl_iff]
    exact .inr ⟨b, rfl, q _ H (Ex.refl H) (.int _)⟩
  mono := fun ds Q Q' q ⟨b, e, z⟩ => ⟨b, e, q _ z⟩
@[simp] def kList : List D → KD → Prop := fun ds Q => (∃ es, ds = [.tup es] ∧ Q (.lst es)) ∨ ∃ es, ds = [.lst es] ∧ Q (.lst es)
theorem dc_list : DC K C (fun xs H Q => ∃ p ys, xs = [.ref p] ∧ (SqL K H p ys ∨ SqT K H p ys) ∧ ∀ l, H l = none → Q (.ref l) (upd H l (.lst ys))) kList where
  to := fun O H vs ds Q dm r z => by
    rcases z with ⟨es, e, q⟩ | ⟨es, e, q⟩
    · subst e
      obtain ⟨v, rfl, rv⟩ := r.one
      obtain ⟨a, ws, rfl, h1, r1⟩ := rv.tup_iff
      exact ⟨a, ws, rfl, .inr (ex_t hide_ex h1), fun l hl => q _ _ (Ex.new hl) (new_lst dm hl r1)⟩
    · subst e
      obtain ⟨v, rfl, rv⟩ := r.one
      obtain ⟨a, ws, rfl, h1, r1⟩ := rv.lst_iff
      exact ⟨a, ws, rfl, .inl (SqL.of (hide_ex _ _ h1)), fun l hl => q _ _ (Ex.new hl) (new_lst dm hl r1)⟩
  mono := fun ds Q Q' q z => by
    rcases z with ⟨es, e, z⟩ | ⟨es, e, z⟩
    · exact .inl ⟨es, e, q _ z⟩
    · exact .inr ⟨es, e, q _ z⟩
@[simp] def kTuple : List D → KD → Prop := fun ds Q => ∃ es, ds = [.lst es] ∧ Q (.tup es)
theorem dc_tuple : DC K C (fun xs H Q => ∃ p ys, xs = [.ref p] ∧ ((SqL K H p ys ∧ ∀ l, H l = none → Q (.ref l) (upd H l (.tup ys))) ∨ (SqT K H p ys ∧ Q (.ref p) H))) kTuple where
  to := fun O H vs ds Q dm r ⟨es, e, q⟩ => by
    subst e
    obtain ⟨v, rfl, rv⟩ := r.one
    obtain ⟨a, ws, rfl, h1, r1⟩ := rv.lst_iff
    exact ⟨a, ws, rfl, .inl ⟨SqL.of (hide_ex _ _ h1), fun l hl => q _ _ (Ex.new hl) (new_tup dm hl r1)⟩⟩
  mono := fun ds Q Q' q ⟨es, e, z⟩ => ⟨es, e, q _ z⟩
theorem reps_bls {H : Hp} : ∀ {vs : List V} {bs : List Bool}, Reps K C H vs (bs.map D.bl) → vs = bs.map V.bl
  | _, [], h => by cases h; rfl
  | _, z :: zs, h => by
    cases h with
    | cons h r => rw [h.bl_iff, reps_bls r] <;> rfl
def kAll : List D → KD → Prop := fun ds Q => ∃ bs : List Bool, ds = [.lst (bs.map D.bl)] ∧ Q (.bl (bs.all id))
theorem dc_all : DC K C (rAll K) kAll where
  to := fun O H vs ds Q dm r ⟨bs, e, q⟩ => by
    subst e
    obtain ⟨v, rfl, rv⟩ := r.one
    obtain ⟨a, ws, rfl, h1, r1⟩ := rv.lst_iff
    rw [reps_bls r1] at h1
    exact ⟨a, bs, rfl, SqL.of (hide_ex _ _ h1), q _ H (Ex.refl H) (.bl _)⟩
  mono := fun ds Q Q' q ⟨es, e, z⟩ => ⟨es, e, q _ z⟩
@[simp] def kMax : List D → KD → Prop := fun ds Q => ∃ i j, ds = [.int i, .int j] ∧ Q (.int (if j > i then j else i))
theorem dc_max : DC K C (fun xs H Q => ∃ i j, xs = [.int i, .int j] ∧ Q (.int (if j > i then j else i)) H) kMax where
  to := fun O H vs ds Q dm r ⟨i, j, e, q⟩ => by
    subst e
    obtain ⟨v, w, rfl, rv, rw'⟩ := r.two
    rw [rv.int_iff, rw'.int_iff]
    exact ⟨i, j, rfl, q _ H (Ex.refl H) (.int _)⟩
  mono := fun ds Q Q' q ⟨i, j, e, z⟩ => ⟨i, j, e, q _ z⟩
@[simp] def kMin : List D → KD → Prop := fun ds Q => ∃ i j, ds = [.int i, .int j] ∧ Q (.int (if j < i then j else i))
theorem dc_min : DC K C (fun xs H Q => ∃ i j, xs = [.int i, .int j] ∧ Q (.int (if j < i then j else i)) H) kMin where
  to := fun O H vs ds Q dm r ⟨i, j, e, q⟩ => by
    subst e
    obtain ⟨v, w, rfl, rv, rw'⟩ := r.two
    rw [rv.int_iff, rw'.int_iff]
    exact ⟨i, j, rfl, q _ H (Ex.refl H) (.int _)⟩
  mono := fun ds Q Q' q ⟨i, j, e, z⟩ => ⟨i, j, e, q _ z⟩

/-! ### isinstance -/
def isA : D → Tn → Bool
  | .int _, .int => true
  | .bl _, .bool => true
  | .bl _, .int => true
  | .str _, .str => true
  | .tup _, .tuple => true
  | .lst _, .list => true
  | _, _ => false
def tyS : D → Option String
  | .non => some "NoneType"
  | .int _ => some "int"
  | .bl _ => some "bool"
  | .str _ => some "str"
  | .tup _ => some "tuple"
  | .lst _ => some "list"
  | _ => none
@[simp] theorem tyS_non : tyS .non = some "NoneType" := rfl
@[simp] theorem tyS_int (i : Int) : tyS (.int i) = some "int" := rfl
@[simp] theorem tyS_bl (b : Bool) : tyS (.bl b) = some "bool" := rfl
@[simp] theorem tyS_str (s : Str) : tyS (.str s) = some "str" := rfl
@[simp] theorem tyS_tup (ds : List D) : tyS (.tup ds) = some "tuple" := rfl
@[simp] theorem tyS_lst (ds : List D) : tyS (.lst ds) = some "list" := rfl
@[simp] theorem isA_non (t : Tn) : isA .non t = false := by cases t <;> rfl
@[simp] theorem isA_int (i : Int) (t : Tn) : isA (.int i) t = (match t with | .int => true | _ => false) := by cases t <;> rfl
@[simp] theorem isA_bl (i : Bool) (t : Tn) : isA (.bl i) t = (match t with | .int => true | .bool => true | _ => false) := by cases t <;> rfl
@[simp] theorem isA_str (i : Str) (t : Tn) : isA (.str i) t = (match t with | .str => true | _ => false) := by cases t <;> rfl
@[simp] theorem isA_tup (i : List D) (t : Tn) : isA (.tup i) t = (match t with | .tuple => true | _ => false) := by cases t <;> rfl
@[simp] theorem isA_lst (i : List D) (t : Tn) : isA (.lst i) t = (match t with | .list => true | _ => false) := by cases t <;> rfl
def tnAll : List Tn := [.int, .bool, .str, .tuple, .list]
theorem kitAll : (tnAll.all fun t => decide (kitB "NoneType" t.s = some (isA .non t)) && decide (kitB "int" t.s = some (isA (.int 0) t)) && decide (kitB "bool" t.s = some (isA (.bl true) t)) && decide (kitB "str" t.s = some (isA (.str ⟨#[]⟩) t)) &&
    decide (kitB "tuple" t.s = some (isA (.tup []) t)) && decide (kitB "list" t.s = some (isA (.lst []) t))) = true := by decide +kernel
theorem kit_isA {d : D} {s : String} (t : Tn) (h : tyS d = some s) : kitB s t.s = some (isA d t) := by
  have m : t ∈ tnAll := by cases t <;> simp [tnAll]
  have q := List.all_eq_true.mp kitAll t m
  simp only [Bool.and_eq_true, decide_eq_true_eq] at q
  obtain ⟨⟨⟨⟨⟨q1, q2⟩, q3⟩, q4⟩, q5⟩, q6⟩ := q
  cases d <;> cases h
  · exact q1
  · rw [q3]; cases t <;> rfl
  · rw [q2]; cases t <;> rfl
  · rw [q4]; cases t <;> rfl
  · rw [q5]; cases t <;> rfl
  · rw [q6]; cases t <;> rfl
theorem tyX_of {H H' : Hp} {v : V} {d : D} {s : String} (e : Ex H H') (r : Rep K C H v d) (h : tyS d = some s) : TyX K H' v (.type s) := by
  cases d with
  | non => cases h; rw [r.non_iff]; exact .base .non
  | int i => cases h; rw [r.int_iff]; exact .base (.int i)
  | bl b => cases h; rw [r.bl_iff]; exact .base (.bl b)
  | str z => cases h; rw [r.str_iff]; exact .base (.str z)
  | tup ds =>
    cases h
    obtain ⟨a, ws, rfl, h1, r1⟩ := r.tup_iff
    rcases ex_t e h1 with (q | ⟨o, q⟩) | ⟨o, its, n, q, c, _⟩
    · exact .base (.tup q)
    · exact .fTuple q
    · exact .kTuple q c
  | lst ds =>
    cases h
    obtain ⟨a, ws, rfl, h1, r1⟩ := r.lst_iff
    exact .base (.lst (e _ _ h1))
  | _ => cases h
@[simp] def kIsi : List D → KD → Prop := fun ds Q => ∃ d t, ds = [d, .ty t] ∧ (tyS d).isSome = true ∧ Q (.bl (isA d t))
theorem dc_isi : DC K C (rIsi K) kIsi where
  to := fun O H vs ds Q dm r ⟨d, t, e, h, q⟩ => by
    subst e
    obtain ⟨v, w, rfl, rv, rw'⟩ := r.two
    cases rw'
    obtain ⟨s, hs⟩ := Option.isSome_iff_exists.mp h
    exact ⟨v, .ty t.s, .type s, .type t.s, isA d t, rfl, .ty _, tyX_of hide_ex rv hs, kit_ty (kit_isA t hs), q _ H (Ex.refl H) (.bl _)⟩
  mono := fun ds Q Q' q ⟨d, t, e, h, z⟩ => ⟨d, t, e, h, q _ z⟩
/-- what isinstance asks of the class of grounds -/
structure InsOk (K : PySem.W.Frag) (C : Addr) : Prop where
  cl : Cls K C
  ha : PySem.W.findIn K (.ref C) "__class__" = some (some (.builtin "object.__class__"))
  hn : PySem.W.specialIn K (.builtin "object.__class__") "__get__" = some (some (.builtin "getset_descriptor.__get__"))
  htk : PySem.W.takesIn K (.builtin "object.__class__") = some true
  hm : PySem.W.mroIn K C (.type "object") = some true
  ki : PySem.W.kitOne K (.ref C) (.ref C) = some true
@[simp] def kIsG (C : Addr) : List D → KD → Prop := fun ds Q => ∃ ns rs, ds = [.gnd ns rs, .adr C] ∧ Q (.bl true)
theorem dc_isG (h : InsOk K C) : DC K C (rIsi K) (kIsG C) where
  to := fun O H vs ds Q dm r ⟨ns, rs, e, q⟩ => by
    subst e
    obtain ⟨v, w, rfl, rv, rw'⟩ := r.two
    cases rw'
    cases rv with
    | gnd h1 h2 h3 h4 h5 h6 h7 => exact ⟨_, .ref C, .ref C, .ref C, true, rfl, .own C, .base (.ins (hide_ex _ _ h1) h.cl h.ha h.hn h.htk h.hm), h.ki, q _ H (Ex.refl H) (.bl _)⟩
  mono := fun ds Q Q' q ⟨ns, rs, e, z⟩ => ⟨ns, rs, e, q _ z⟩
end
/-- a built-in class as a value -/
theorem de_ty {x : Str} (t : Tn) (hg : Gl X x) (hm : X.mg x = none) (hv : bootBuiltins x = some (.type t.s)) (hn : x ≠ "__name__" := by decide) (hd : (x == ("__debug__" : Str)) = false := by decide) : DE X C (.Name x pos) (dC (.ty t)) :=
  de_tC (pe_bltn (v := .ty t.s) hg hm hv rfl hn hd) fun _ => .ty t
/-- isinstance(x, (A, B)) -/
@[simp] def dIsi2 (s t : Tn) (f : DTe) : DTe := fun ρ π Q => f ρ π fun d π1 => (tyS d).isSome = true ∧ Q (.bl (isA d s || isA d t)) π1
theorem de_isi2 {x y z : Str} {s t : Tn} {p p1 p2' p3 : Pos} {n : Nat} (hg : Gl X z) (hm : X.mg z = none) (hv : bootBuiltins z = some (.builtin "isinstance")) (h1 : Gl X x) (m1 : X.mg x = none) (v1 : bootBuiltins x = some (.type s.s)) (h2 : Gl X y) (m2 : X.mg y = none) (v2 : bootBuiltins y = some (.type t.s))
    (ha : DE X C e f) (n1 : x ≠ "__name__" := by decide) (d1 : (x == ("__debug__" : Str)) = false := by decide) (n2 : y ≠ "__name__" := by decide) (d2 : (y == ("__debug__" : Str)) = false := by decide) (n3 : z ≠ "__name__" := by decide) (d3 : (z == ("__debug__" : Str)) = false := by decide)
    (he : starEach [e, .Tuple [.Name x p1, .Name y p2'] n p3] X.env = [(false, eval e X.env), (false, eval (.Tuple [.Name x p1, .Name y p2'] n p3) X.env)] := by rfl)
    (he2 : starEach [.Tuple [.Name x p1, .Name y p2'] n p3] X.env = [(false, eval (.Tuple [.Name x p1, .Name y p2'] n p3) X.env)] := by rfl)
    (hpl : (backTo pos (starEach [.Tuple [.Name x p1, .Name y p2'] n p3] X.env)).any (·.1) = false := by rfl) :
    DE X C (.Call (.Name z p) [e, .Tuple [.Name x p1, .Name y p2'] n p3] [] pos) (dIsi2 s t f) where
  pe := fun F => pe_weak (pe_callB call_isiT hg hm hv (pa_cons (ha.pe F) (pa_cons (pe_tup (pa_cons (pe_bltn (v := .ty s.s) h1 m1 v1 rfl n1 d1) (pa_cons (pe_bltn (v := .ty t.s) h2 m2 v2 rfl n2 d2) pa_nil))) pa_nil he2) he) n3 d3 he hpl) fun σ H Q ⟨ρ, π, O, R, q⟩ =>
    ⟨ρ, π, O, R, ha.mono _ _ _ _ (fun d π1 ⟨hd, q1⟩ v H1 s1 r1 => ⟨by show 2 ≤ sizeLine; decide, fun tp hp => by
      obtain ⟨str, hs⟩ := Option.isSome_iff_exists.mp hd
      refine ⟨v, tp, [.ty s.s, .ty t.s], .type str, [.type s.s, .type t.s], isA d s || isA d t, rfl, upd_same, .cons (.ty _) (.cons (.ty _) .nil), tyX_of (hide_ex.trans (Ex.new hp)) r1 hs, ?_, ?_⟩
      · refine kitAny_cons (kit_ty (kit_isA s hs)) (fun hf => ?_) fun ht => by rw [ht]; rfl
        refine kitAny_cons (kit_ty (kit_isA t hs)) (fun hf2 => ?_) fun ht => by rw [ht, Bool.or_true]
        rw [hf, hf2]; rfl
      · exact q1 _ _ (s1.trans ((R.step s1).ex_stp (Ex.new hp))) (.bl _)⟩) q⟩
  mono := fun ρ π Q Q' q h => ha.mono _ _ _ _ (fun d π1 ⟨hd, h1⟩ => ⟨hd, q _ _ h1⟩) h

/-! ### defs of the text -/
abbrev SpecD := List D → Pu → (D → Pu → Prop) → Prop
def PuAt (O : List Addr) (H : Hp) (π : Pu) : Prop := ∀ a l, π = some (a, l) → a ∈ O ∧ H a = some (.lst (l.map V.int))
def SpD (K : PySem.W.Frag) (C : Addr) (sp : SpecD) : Sp := fun vs H Q _ => ∃ O π ds, Dm O H ∧ PuAt O H π ∧ Reps K C (hide O H) vs ds ∧ sp ds π fun d π' => ∀ v H', Stp π π' H H' → Rep K C (hide O H') v d → Q v H'
/-- a def that keeps the spec: its global name, its level, the defaults that fill up -/
structure Fn (P : Program) (w : World) (K : PySem.W.Frag) (mg : Str → Option Value) (base : Heap) (C : Addr) (x : Str) (k : Nat) (dds : List D) (sp : SpecD) : Prop where
  ex : ∃ (f : Addr) (fd : FuncData) (ps : List Str) (ds : List Value) (dvs : List V), FnOk P w K mg base CX0 k f fd ps (SpD K C sp) ∧ mg x = some (.ref f) ∧ PySem.W.keepIn K (.ref f) = true ∧ Binds K fd ps ds ∧ Vals dvs ds ∧ ∀ H, Reps K C H dvs dds
  mono : ∀ ds π Q Q', (∀ d π', Q d π' → Q' d π') → sp ds π Q → sp ds π Q'
@[simp] def dOwn (sp : SpecD) (dds : List D) (f : DTa) : DTe := fun ρ π Q => f ρ π fun ds π1 => sp (ds ++ dds) π1 Q
theorem de_call {x : Str} {p : Pos} {k : Nat} {dds : List D} {sp : SpecD} (G : Fn X.prog X.w X.K X.mg X.base C x k dds sp) (hr : Room k X.A) (ha : DA X C (e :: es) fa) (hg : Gl X x := by rfl) (hdb : (x == ("__debug__" : Str)) = false := by decide)
    (he : starEach (e :: es) X.env = (false, eval e X.env) :: starEach es X.env := by rfl) (hpl : (backTo pos (starEach es X.env)).any (·.1) = false := by rfl) : DE X C (.Call (.Name x p) (e :: es) [] pos) (dOwn sp dds fa) where
  pe := fun F => by
    obtain ⟨f, fd, ps, ds, dvs, G1, hm, hk, hb, hd, hdd⟩ := G.ex
    refine pe_weak (pe_call G1 hr hg hm hk hb hd pass0 (ha.pa F) hdb he hpl) fun σ H Q ⟨ρ, π, O, R, q⟩ => ?_
    refine ⟨ρ, π, O, R, ha.mono _ _ _ _ (fun ds π1 q1 vs H1 s1 r1 => ?_) q⟩
    refine ⟨O, π1, ds ++ dds, (R.step s1).dom, fun a l h => let ⟨h1, h2, _⟩ := (R.step s1).pu a l h; ⟨h1, h2⟩, r1.append (hdd _), G.mono _ _ _ _ (fun d π2 q2 v H2 s2 r2 => ?_) q1⟩
    exact q2 v H2 (s1.trans s2) r2
  mono := fun ρ π Q Q' q h => ha.mono _ _ _ _ (fun ds π1 h1 => G.mono _ _ _ _ q h1) h
end
end Kp
set_option maxRecDepth 100000
set_option maxHeartbeats 2000000
/-! It1: enumerate of a tuple, zip of a text and a tuple, as walks of the hand layer -/
namespace Kp
open PySem PySem.Spec PyProof.Rows L2

/-! ### enumerate(tuple) -/
set_option maxHeartbeats 4000000 in
theorem meets_enumerate_new1 {v : Value} {o : Obj} {H : Heap → Prop} (B : Begins v o H) :
    Meets (Builtin.«enumerate.__new__» ⟨[.type "enumerate", v], []⟩) (fun _ R s => H s.heap ∧
      R (.ok (.ret (.ref (s.heap.push o).objs.size))) { s with heap := (s.heap.push o).push { cls := .type "enumerate", data := .fields #[.none, .bool false, .ref s.heap.objs.size, rawInt 0, .none, .none] } }) :=
  .of_wp fun prog w A R s h => by
    obtain ⟨hp, g, d, tk, os⟩ := s; obtain ⟨h1, h⟩ := h
    have hsub := sub_enumerate
    have q1 : ∀ {A' : Around} {E : Value → Shared → Prop} {Q : Value → Shared → Prop}, Q (.ref hp.objs.size) ⟨hp.push o, g, d, tk, os⟩ → wpAny (model prog w) A' (pyIter v) Q E ⟨hp, g, d, tk, os⟩ :=
      fun q => B.iter prog w _ _ ⟨hp, g, d, tk, os⟩ _ h1 q
    wp_walk using q1
    refine wpAny_stack_any fun st => wpAny_pure ?_
    split
    · rename_i c _ _ _ _ _
      cases (c == Value.type "enumerate")
      · wp_walk using q1
        exact ⟨_, rfl, h⟩
      · wp_walk using q1
        exact ⟨_, rfl, h⟩
    · wp_walk using q1
      exact ⟨_, rfl, h⟩
section
variable {prog : Program} {w : World} {A : Around} {E : Value → Shared → Prop} {s : Shared}
theorem call_enumerate1 {v : Value} {o : Obj} {H : Heap → Prop} {Q : Value → Shared → Prop} (B : Begins v o H) (h1 : H s.heap)
    (h : ∀ h', IsEnum h' (s.heap.objs.size + 1) s.heap.objs.size 0 .none → h'.get? s.heap.objs.size = some o → h'.objs.size = s.heap.objs.size + 2 →
      (∀ b o, s.heap.get? b = some o → h'.get? b = some o) → Q (.ref (s.heap.objs.size + 1)) { s with heap := h' }) :
    wpAny (model prog w) A (call (.type "enumerate") [v]) Q E s := by
  refine callType_new F.called_enumerate (by decide) (F.typeCall_enumerate_1 _) (F.newCall_enumerate_1 _) (fun obj => F.args_object_init_2 obj _) F.entry_enumerate_new
    (meets_enumerate_new1 B) ⟨h1, ?_⟩
  have hz : (s.heap.push o).objs.size = s.heap.objs.size + 1 := Heap.size_push ..
  show _ ∧ _
  rw [hz]
  have he : IsEnum ((s.heap.push o).push { cls := .type "enumerate", data := .fields #[.none, .bool false, .ref s.heap.objs.size, rawInt 0, .none, .none] }) (s.heap.objs.size + 1) s.heap.objs.size 0 .none := by
    have := Heap.get?_push_size (s.heap.push o) (o := { cls := .type "enumerate", data := .fields #[.none, .bool false, .ref s.heap.objs.size, rawInt 0, .none, .none] }) rfl
    rw [hz] at this; exact this
  refine ⟨⟨_, he, rfl⟩, h _ he (Heap.get?_push_of_some _ (Heap.get?_push_size _ B.free)) (by rw [Heap.size_push, hz]) fun b o x => Heap.get?_push_of_some _ (Heap.get?_push_of_some _ x)⟩
end
/-- the tuple at a, each item in a new pair -/
def IteT (K : PySem.W.Frag) (a : Addr) : It :=
  ⟨fun i H => ∃ (xs : List V) (x : V), SqT K H a xs ∧ xs[i]? = some x, fun i H v H' => ∃ T x, v = .ref T ∧ H T = none ∧ H' = upd H T (.tup [.int (i : Nat), x]) ∧ ∀ xs, SqT K H a xs → xs[i]? = some x, fun i H => ∃ xs : List V, SqT K H a xs ∧ xs.length = i⟩
theorem turn_enumT {P : Program} {w : World} {K : PySem.W.Frag} {elts : List Expr} {kk : Nat} {tpos : Pos} (a e it : Addr) :
    Turn P w K (.Tuple elts kk tpos) (IteT K a) [e, it] e (fun i h => (∃ old, IsEnum h e it ((i : Nat) : Int) old) ∧ h.IsTupleIter it a i ∧ e ≠ it ∧ a ≠ it ∧ a ≠ e) where
  mem := by simp
  obj := fun i h st b hb => by
    obtain ⟨⟨old, he⟩, ⟨o, ho, hc, hd⟩, _⟩ := st
    have e' : b = e ∨ b = it := by simpa using hb
    rcases e' with z | z
    · rw [z]; exact ⟨_, he, fun v q => nomatch q⟩
    · rw [z]; exact ⟨o, ho, fun v q => by rw [hd] at q; cases q⟩
  keep := fun i h h' st k => let ⟨⟨old, he⟩, hi, hne⟩ := st; ⟨⟨old, k e (by simp) _ he⟩, hi.at fun o q => k it (by simp) o q, hne⟩
  item := by
    intro X hP hw hK hc i pins s σ H E I hf st hg
    subst hP hw hK
    obtain ⟨⟨old, he⟩, hit, hne, hai, hae⟩ := st
    obtain ⟨xs, x, hq, hx⟩ := hg
    obtain ⟨its, rv, p, hz⟩ := I.tuple hq
    obtain ⟨u, hu, ru⟩ := rv.get hx
    have hel : e < s.heap.objs.size := Heap.lt_size he
    have hil : it < s.heap.objs.size := by obtain ⟨_, q, _⟩ := hit; exact Heap.lt_size q
    have hlt : i < its.toArray.size := by
      have := (List.getElem?_eq_some_iff.mp hu).1
      simpa using this
    have nef : e ∉ [it, a] := fun z => by
      rcases List.mem_cons.mp z with z | z
      · exact hne z
      · exact hae (List.mem_singleton.mp z).symm
    refine wpAny_pyNext_enum_itemC (Draws.tuple (prog := X.prog) (w := X.w) (A := X.A.in1) (show X.A.in1.handled = none from I.ok.hd hc) it a hai its.toArray) he ⟨hit, (show s.heap.IsTuple a its.toArray from p)⟩ hlt hne nef fun y h' tk hy ho hst hT hsz hk => ?_
    have ey : y = u := by
      have h1 : its[i]? = some y := by simpa using hy
      rw [hu] at h1; exact (Option.some.inj h1).symm
    subst ey
    refine ⟨_, rfl, wpAny_letOwnedTupleGo_enum (s := { s with heap := h', toks := tk + 1 }) ho fun h'' he' sb => ?_⟩
    have hT2 : h''.get? s.heap.objs.size = some { cls := .type "tuple", data := .seq #[.int i tk, y] } := (sb.2 _ (Nat.ne_of_gt hel)).trans hT
    have new : ObjOk X.prog X.w (upd H s.heap.objs.size (.tup [.int (i : Nat), x])) h'' s.heap.objs.size (.tup [.int (i : Nat), x]) :=
      ⟨by show 2 ≤ sizeLine; decide, [.int i tk, y], .cons ⟨_, rfl⟩ (.cons ru .nil), ⟨_, hT2, rfl, _, rfl⟩⟩
    have I1 : Inv X pins σ (upd H s.heap.objs.size (.tup [.int (i : Nat), x])) { s with heap := h'', toks := tk + 1 } :=
      I.turnedNew (ch := [e, it]) (fun b ob hb q => (sb.2 b (fun z => hb (by simp [z]))).trans (hk b ob (fun z => hb (by simp [z])) (fun z => hb (by simp [z])) q)) hf (Nat.le_refl _) new
    refine ⟨.ref s.heap.objs.size, _, I1, rfl, ⟨_, x, rfl, I.hok.fresh (Nat.le_refl _), rfl, fun ys hy => by rw [I.tuple_inj hy hq]; exact hx⟩, ⟨⟨y, ?_⟩, hst.1.at fun o q => (sb.2 it (Ne.symm hne)).trans q, hne, hai, hae⟩, fun b hb => ?_⟩
    · have e1 : ((i + 1 : Nat) : Int) = (i : Int) + 1 := by omega
      rw [e1]; exact he'
    · have hb' : b < s.heap.objs.size := by
        have e' : b = e ∨ b = it := by simpa using hb
        rcases e' with z | z
        · rw [z]; exact hel
        · rw [z]; exact hil
      rw [upd_ne (Nat.ne_of_lt hb')]
      exact (hf b hb).1
  done := by
    intro X hP hw hK hc i pins s σ H E I hf st hg
    subst hP hw hK
    obtain ⟨⟨old, he⟩, hit, hne, hai, hae⟩ := st
    obtain ⟨xs, hq, hx⟩ := hg
    obtain ⟨its, rv, p, hz⟩ := I.tuple hq
    obtain ⟨f0, f1, f2, f3, f4, f5⟩ := hf it (by simp)
    have hl : its.toArray.size = i := by rw [List.size_toArray, ← rv.length]; exact hx
    exact wpAny_pyNext_enum_endD (Draws.tuple (prog := X.prog) (w := X.w) (A := X.A.in1) (show X.A.in1.handled = none from I.ok.hd hc) it a hai its.toArray) he ⟨by rw [hl]; exact hit, (show s.heap.IsTuple a its.toArray from p)⟩ fun h' eb => ⟨rfl, I.turned (t' := s.toks) (fun b o hb q => eb b o hb q) f0 f1 f3 f4 f5⟩
  self := fun A i s Q E st h => let ⟨⟨_, he⟩, _⟩ := st; wpAny_pyIter_enum he h
def iEnumT (K : PySem.W.Frag) (ta : TA) : TI := fun σ H R => ta σ H fun vs H1 => ∃ a xs, vs = [.ref a] ∧ SqT K H1 a xs ∧ R (IteT K a) H1
theorem pi_enumT {X : Cx} {e : Expr} {ta : TA} {p pos tpos : Pos} {elts : List Expr} {kk : Nat} (hg : Gl X "enumerate") (hm : X.mg "enumerate" = none) (ha : PA X [e] ta) (hs : starEach [e] X.env = [(false, eval e X.env)] := by rfl) :
    PI X (.Tuple elts kk tpos) (.Call (.Name "enumerate" p) [e] [] pos) (iEnumT X.K ta) := by
  refine ⟨fun pins s σ H R I h => ?_⟩
  refine Call_ (ld_blt I hg hm boot_enumerate (PyProof.Rows.callWith_type1 (thn (ha.run pos pins s σ H _ I h) fun us s1 ⟨vs, H1, I1, r1, q1⟩ => ?_) hs rfl))
  obtain ⟨a, xs, ex, hq, q⟩ := q1
  subst ex
  cases r1 with
  | cons r rr =>
    cases rr
    cases r
    obtain ⟨its, rv, p', hz⟩ := I1.tuple hq
    have hal : a < s1.heap.objs.size := by obtain ⟨_, q, _⟩ := id p'; exact Heap.lt_size q
    refine call_enumerate1 (begins_tuple a its.toArray) (show s1.heap.IsTuple a its.toArray from p') fun h' he hit hsz hk => wpAny_pyIter_enum he ?_
    have I2 : Inv X pins σ H1 { s1 with heap := h' } := I1.kept (t' := s1.toks) hk
    refine ⟨s1.heap.objs.size + 1, [s1.heap.objs.size + 1, s1.heap.objs.size], _, _, H1, rfl, I2, turn_enumT a (s1.heap.objs.size + 1) s1.heap.objs.size, ⟨⟨.none, he⟩, ⟨_, hit, rfl, rfl⟩, Nat.succ_ne_self _, Nat.ne_of_lt hal, Nat.ne_of_lt (Nat.lt_succ_of_lt hal)⟩, fun b hb => ?_, q⟩
    have e' : b = s1.heap.objs.size + 1 ∨ b = s1.heap.objs.size := by simpa using hb
    have hle : s1.heap.objs.size ≤ b := by
      rcases e' with z | z
      · rw [z]; exact Nat.le_add_right _ _
      · rw [z]; exact Nat.le_refl _
    exact I1.fpOk hle (I1.hok.fresh hle)

/-! ### zip(text, tuple) -/
def ItzS (K : PySem.W.Frag) (z : Str) (b : Addr) : It :=
  ⟨fun i H => ∃ (ys : List V) (c : Nat) (y : V), SqT K H b ys ∧ z.cps[i]? = some c ∧ ys[i]? = some y,
    fun i H v H' => ∃ T c y, v = .ref T ∧ H T = none ∧ H' = upd H T (.tup [.str ⟨#[c]⟩, y]) ∧ z.cps[i]? = some c ∧ ∀ ys, SqT K H b ys → ys[i]? = some y,
    fun i H => ∃ ys : List V, SqT K H b ys ∧ i ≤ z.cps.size ∧ i ≤ ys.length ∧ (i = z.cps.size ∨ i = ys.length)⟩
theorem turn_zipS {P : Program} {w : World} {K : PySem.W.Frag} {elts : List Expr} {kk : Nat} {tpos : Pos} {x : Str} {t : Tok} {b z TI TO i1 i2 : Addr} (S : ZipSep2 z TI TO i1 i2 [i1] [i2, b]) (hTb : TI ≠ b) :
    Turn P w K (.Tuple elts kk tpos) (ItzS K x b) [z, TI, TO, i1, i2] z (fun i h => IsZip h z TI TO .none ∧ IsTupOf2 h TI (.ref i1) (.ref i2) ∧ (∃ a1 a2, IsTupOf2 h TO a1 a2) ∧ h.IsStrIter i1 (strIterType x) x t i ∧ h.IsTupleIter i2 b i) where
  mem := by simp
  obj := fun i h st c hc => by
    obtain ⟨hz, hTI, ⟨x, y, hTO⟩, ⟨o1, e1, _, d1⟩, ⟨o2, e2, _, d2⟩⟩ := st
    have e' : c = z ∨ c = TI ∨ c = TO ∨ c = i1 ∨ c = i2 := by simpa using hc
    rcases e' with q | q | q | q | q
    · rw [q]; exact ⟨_, hz, fun v q => nomatch q⟩
    · rw [q]; exact ⟨_, hTI, fun v q => nomatch q⟩
    · rw [q]; exact ⟨_, hTO, fun v q => nomatch q⟩
    · rw [q]; exact ⟨o1, e1, fun v q => by rw [d1] at q; cases q⟩
    · rw [q]; exact ⟨o2, e2, fun v q => by rw [d2] at q; cases q⟩
  keep := fun i h h' st k => by
    obtain ⟨hz, hTI, ⟨x, y, hTO⟩, ⟨o1, e1, c1, d1⟩, h2⟩ := st
    exact ⟨k z (by simp) _ hz, k TI (by simp) _ hTI, ⟨x, y, k TO (by simp) _ hTO⟩, ⟨o1, k i1 (by simp) _ e1, c1, d1⟩, h2.at fun o q => k i2 (by simp) o q⟩
  item := by
    intro X hP hw hK hc i pins s σ H E I hf st hg
    subst hP hw hK
    obtain ⟨hz, hTI, ⟨x0, y0, hTO⟩, h1, h2⟩ := st
    obtain ⟨ys, c, y, hqy, hx, hy⟩ := hg
    obtain ⟨its2, rv2, p2, _⟩ := I.tuple hqy
    obtain ⟨u2, hu2, ru2⟩ := rv2.get hy
    have hzl : z < s.heap.objs.size := Heap.lt_size hz
    have hb2 : b ≠ i2 := fun e => by
      subst e
      obtain ⟨o, e1, c1, _⟩ := id h2
      obtain ⟨o', e1', c1', _⟩ := id p2
      rw [e1] at e1'
      cases e1'
      rw [c1] at c1'
      exact absurd c1' (by decide +kernel)
    have hlt1 : i < x.cps.size := (Array.getElem?_eq_some_iff.mp hx).1
    have hlt2 : i < its2.toArray.size := by
      have := (List.getElem?_eq_some_iff.mp hu2).1
      simpa using this
    have hne : ∀ q : Addr, q ∈ [z, TI, TO, i1, i2] → q ≠ s.heap.objs.size := fun q hq e => by
      have e' : q = z ∨ q = TI ∨ q = TO ∨ q = i1 ∨ q = i2 := by simpa using hq
      have hlt : q < s.heap.objs.size := by
        rcases e' with q' | q' | q' | q' | q'
        · rw [q']; exact hzl
        · rw [q']; exact Heap.lt_size hTI
        · rw [q']; exact Heap.lt_size hTO
        · rw [q']; obtain ⟨_, e1, _⟩ := h1; exact Heap.lt_size e1
        · rw [q']; obtain ⟨_, e2, _⟩ := h2; exact Heap.lt_size e2
      exact absurd (e ▸ hlt) (Nat.lt_irrefl _)
    refine wpAny_pyNext_zipD2_item S (Draws.text (prog := X.prog) (w := X.w) (A := X.A.in1) (show X.A.in1.handled = none from I.ok.hd hc) i1 x t) (Draws.tuple (prog := X.prog) (w := X.w) (A := X.A.in1) (show X.A.in1.handled = none from I.ok.hd hc) i2 b hb2 its2.toArray) hz hTI hTO h1 ⟨h2, (show s.heap.IsTuple b its2.toArray from p2)⟩ hlt1 hlt2 fun x1 x2 h' tk P1 P2 z' TO' h1' h2' hT hsz hk => ?_
    obtain ⟨c', tc, hc', ex1⟩ := P1
    have ec : c' = c := by rw [hx] at hc'; exact (Option.some.inj hc').symm
    subst ec
    subst ex1
    have ey : x2 = u2 := by
      have q1 : its2[i]? = some x2 := by simpa using P2
      rw [hu2] at q1; exact (Option.some.inj q1).symm
    subst ey
    refine ⟨_, rfl, wpAny_letOwnedTupleGo_zip (s := { s with heap := h', toks := tk }) z' fun h'' z'' sb => ?_⟩
    have hT2 : h''.get? s.heap.objs.size = some { cls := .type "tuple", data := .seq #[.str ⟨#[c']⟩ tc, x2] } := (sb.2 _ (Nat.ne_of_gt hzl)).trans hT
    have new : ObjOk X.prog X.w (upd H s.heap.objs.size (.tup [.str ⟨#[c']⟩, y])) h'' s.heap.objs.size (.tup [.str ⟨#[c']⟩, y]) :=
      ⟨by show 2 ≤ sizeLine; decide, [.str ⟨#[c']⟩ tc, x2], .cons ⟨_, rfl⟩ (.cons ru2 .nil), ⟨_, hT2, rfl, _, rfl⟩⟩
    have I1 : Inv X pins σ (upd H s.heap.objs.size (.tup [.str ⟨#[c']⟩, y])) { s with heap := h'', toks := tk } :=
      I.turnedNew (t' := tk) (ch := [z, TI, TO, i1, i2]) (fun c o hb q => (sb.2 c (fun q' => hb (by simp [q']))).trans (hk c o (fun q' => hb (by simp [q'])) (fun q' => hb (by simp [q'])) (fun q' => hb (by simp [q'])) (fun q' => hb (by simp [q'])) q)) hf (Nat.le_refl _) new
    refine ⟨.ref s.heap.objs.size, _, I1, rfl, ⟨_, c', y, rfl, I.hok.fresh (Nat.le_refl _), rfl, hx, fun l hl => by rw [I.tuple_inj hl hqy]; exact hy⟩, ⟨z'', ?_, ⟨.str ⟨#[c']⟩ tc, x2, ?_⟩, ?_, ?_⟩, fun q hq => ?_⟩
    · exact (sb.2 _ S.TIz).trans (hk _ _ S.TIz S.TITO S.TIi1 S.TIi2 hTI)
    · exact (sb.2 _ S.TOz).trans TO'
    · obtain ⟨o1, e1, c1, d1⟩ := h1'
      exact ⟨o1, (sb.2 _ (fun q => S.zf1 (by simp [q]))).trans e1, c1, d1⟩
    · exact h2'.1.at fun o q => (sb.2 _ (fun q => S.zf2 (by simp [q]))).trans q
    · rw [upd_ne (hne q hq)]
      exact (hf q hq).1
  done := by
    intro X hP hw hK hc i pins s σ H E I hf st hg
    subst hP hw hK
    obtain ⟨hz, hTI, ⟨x0, y0, hTO⟩, h1, h2⟩ := st
    obtain ⟨ys, hqy, l1, l2, hend⟩ := hg
    obtain ⟨its2, rv2, p2, _⟩ := I.tuple hqy
    have hb2 : b ≠ i2 := fun e => by
      subst e
      obtain ⟨o, e1, c1, _⟩ := id h2
      obtain ⟨o', e1', c1', _⟩ := id p2
      rw [e1] at e1'
      cases e1'
      rw [c1] at c1'
      exact absurd c1' (by decide +kernel)
    have hl2 : its2.toArray.size = ys.length := by rw [List.size_toArray]; exact rv2.length.symm
    exact wpAny_pyNext_zipD2_end S (Draws.text (prog := X.prog) (w := X.w) (A := X.A.in1) (show X.A.in1.handled = none from I.ok.hd hc) i1 x t) (Draws.tuple (prog := X.prog) (w := X.w) (A := X.A.in1) (show X.A.in1.handled = none from I.ok.hd hc) i2 b hb2 its2.toArray) hz hTI hTO h1 ⟨h2, (show s.heap.IsTuple b its2.toArray from p2)⟩ l1 (by rw [hl2]; exact l2) (by rw [hl2]; exact hend) fun h' tk hk =>
      ⟨rfl, I.turnedL (t' := tk) (ch := [z, TI, TO, i1, i2]) (fun c o hb q => hk c o (fun q' => hb (by simp [q'])) (fun q' => hb (by simp [q'])) (fun q' => hb (by simp [q'])) (fun q' => hb (by simp [q'])) q) hf⟩
  self := fun A i s Q E st h => wpAny_pyIter_zip st.1 h
def iZipS (K : PySem.W.Frag) (ta : TA) : TI := fun σ H R => ta σ H fun vs H1 => ∃ z b ys, vs = [.str z, .ref b] ∧ SqT K H1 b ys ∧ R (ItzS K z b) H1
theorem pi_zipS {X : Cx} {e e2 : Expr} {ta : TA} {p pos tpos : Pos} {elts : List Expr} {kk : Nat} (hg : Gl X "zip") (hm : X.mg "zip" = none) (ha : PA X [e, e2] ta)
    (hs : starEach [e, e2] X.env = (false, eval e X.env) :: starEach [e2] X.env := by rfl) (hpl : (backTo pos (starEach [e2] X.env)).any (·.1) = false := by rfl) :
    PI X (.Tuple elts kk tpos) (.Call (.Name "zip" p) [e, e2] [] pos) (iZipS X.K ta) := by
  refine ⟨fun pins s σ H R I h => ?_⟩
  refine Call_ (ld_blt I hg hm PyProof.Rows.boot_zip (PyProof.Rows.callWith_type1 (thn (ha.run pos pins s σ H _ I h) fun us s1 ⟨vs, H1, I1, r1, q1⟩ => ?_) hs hpl))
  obtain ⟨x, b, ys, ex, hqy, q⟩ := q1
  subst ex
  cases r1 with
  | cons r rr =>
    cases rr with
    | cons r' rr =>
      cases rr
      obtain ⟨t, rfl⟩ := r
      cases r'
      have fresh5 : ∀ c, c ∈ [s1.heap.objs.size + 4, s1.heap.objs.size + 2, s1.heap.objs.size + 3, s1.heap.objs.size, s1.heap.objs.size + 1] → FpOk X pins H1 c := fun c hcm => by
        have e' : c = s1.heap.objs.size + 4 ∨ c = s1.heap.objs.size + 2 ∨ c = s1.heap.objs.size + 3 ∨ c = s1.heap.objs.size ∨ c = s1.heap.objs.size + 1 := by simpa using hcm
        have hle : s1.heap.objs.size ≤ c := by
          rcases e' with z | z | z | z | z
          · rw [z]; exact Nat.le_add_right _ _
          · rw [z]; exact Nat.le_add_right _ _
          · rw [z]; exact Nat.le_add_right _ _
          · rw [z]; exact Nat.le_refl _
          · rw [z]; exact Nat.le_add_right _ _
        exact I1.fpOk hle (I1.hok.fresh hle)
      obtain ⟨its2, rv2, p2, _⟩ := I1.tuple hqy
      have hbl : b < s1.heap.objs.size := by obtain ⟨_, q, _⟩ := id p2; exact Heap.lt_size q
      refine zip_begins2 (begins_text x t) (begins_tuple b its2.toArray) trivial (show s1.heap.IsTuple b its2.toArray from p2) fun h' hz hTI hTO h1 h2 hsz hk => wpAny_pyIter_zip hz ?_
      have I2 : Inv X pins σ H1 { s1 with heap := h' } := I1.kept (t' := s1.toks) hk
      refine ⟨s1.heap.objs.size + 4, [s1.heap.objs.size + 4, s1.heap.objs.size + 2, s1.heap.objs.size + 3, s1.heap.objs.size, s1.heap.objs.size + 1], _, _, H1, rfl, I2,
        turn_zipS (t := t) (zip_sep2 (N := s1.heap.objs.size) (fp1 := []) (fp2 := [b]) (fun _ z => nomatch z) fun c hc => by rw [List.mem_singleton.mp hc]; exact hbl) (fun e => absurd hbl (by rw [← e]; exact Nat.not_lt.mpr (Nat.le_add_right _ _))), ⟨hz, hTI, ⟨_, _, hTO⟩, ⟨_, h1, rfl, rfl⟩, ⟨_, h2, rfl, rfl⟩⟩, fresh5, q⟩
end Kp
set_option maxRecDepth 100000
set_option maxHeartbeats 2000000
/-! Dl5: what is walked, targets, comprehensions, new lists, over data -/
namespace Kp
open PySem PySem.Spec L2

/-! ### the data of the turns -/
def rngD (lo : Int) (n : Nat) : List D := (List.range n).map fun i => D.int (lo + (i : Nat))
def rngC (lo c : Int) (n : Nat) : List D := (List.range n).map fun i => D.int (lo + (i : Nat) * c)
def strD (s : Str) : List D := s.cps.toList.map fun c => D.str ⟨#[c]⟩
@[simp] def enumD : Nat → List D → List D
  | _, [] => []
  | k, d :: r => .tup [.int (k : Nat), d] :: enumD (k + 1) r
@[simp] def zipD : List Nat → List D → List D
  | c :: cs, d :: r => .tup [.str ⟨#[c]⟩, d] :: zipD cs r
  | _, _ => []
theorem enumD_length : ∀ (k : Nat) (ds : List D), (enumD k ds).length = ds.length
  | _, [] => rfl
  | k, d :: r => congrArg Nat.succ (enumD_length (k + 1) r)
theorem enumD_get : ∀ (k : Nat) (ds : List D) (i : Nat) (d : D), ds[i]? = some d → (enumD k ds)[i]? = some (.tup [.int ((k + i : Nat) : Nat), d])
  | _, [], _, _, h => by simp at h
  | k, e :: r, 0, d, h => by simp at h; subst h; rfl
  | k, e :: r, i + 1, d, h => by
    have q := enumD_get (k + 1) r i d (by simpa using h)
    have e1 : k + 1 + i = k + (i + 1) := by omega
    rw [e1] at q
    simpa [enumD] using q
theorem zipD_length : ∀ (cs : List Nat) (ds : List D), (zipD cs ds).length = min cs.length ds.length
  | [], _ => by simp [zipD]
  | _ :: _, [] => by simp [zipD]
  | c :: cs, d :: r => by
    have := zipD_length cs r
    simp only [zipD, List.length_cons, this]; omega
theorem zipD_get : ∀ (cs : List Nat) (ds : List D) (i c : Nat) (d : D), cs[i]? = some c → ds[i]? = some d → (zipD cs ds)[i]? = some (.tup [.str ⟨#[c]⟩, d])
  | [], _, _, _, _, h, _ => by simp at h
  | _ :: _, [], _, _, _, _, h => by simp at h
  | c :: cs, d :: r, 0, c', d', h, h' => by simp at h h'; subst h h'; rfl
  | c :: cs, d :: r, i + 1, c', d', h, h' => by
    have q := zipD_get cs r i c' d' (by simpa using h) (by simpa using h')
    simpa [zipD] using q

section
variable {K : PySem.W.Frag} {C : Addr} {O : List Addr} {H : Hp} {a b : Addr} {vs : List V} {ds : List D}
theorem walk_lst (h : hide O H a = some (.lst vs)) (r : Reps K C (hide O H) vs ds) : WalkD K C (Itl K a) (hide O H) ds where
  goes := fun i O' H' e hi => by
    have hv : i < vs.length := by rw [r.length]; exact hi
    exact ⟨vs, vs[i], SqL.of (hide_ex _ _ (e a _ h)), by simp [hv]⟩
  stops := fun O' H' e => ⟨vs, SqL.of (hide_ex _ _ (e a _ h)), by rw [r.length]; exact Nat.le_refl _⟩
  yields := fun i O' H' x H'' dm e hi y => by
    obtain ⟨rfl, hy⟩ := y
    obtain ⟨d, h1, h2⟩ := r.getV (hy vs (SqL.of (hide_ex _ _ (e a _ h))))
    exact ⟨Ex.refl _, d, h1, h2.mono e⟩
theorem walk_tp (h : SqT K (hide O H) a vs) (r : Reps K C (hide O H) vs ds) : WalkD K C (Itt K a) (hide O H) ds where
  goes := fun i O' H' e hi => by
    have hv : i < vs.length := by rw [r.length]; exact hi
    exact ⟨vs, vs[i], ex_t hide_ex (ex_t e h), by simp [hv]⟩
  stops := fun O' H' e => ⟨vs, ex_t hide_ex (ex_t e h), by rw [r.length]; exact Nat.le_refl _⟩
  yields := fun i O' H' x H'' dm e hi y => by
    obtain ⟨rfl, hy⟩ := y
    obtain ⟨d, h1, h2⟩ := r.getV (hy vs (ex_t hide_ex (ex_t e h)))
    exact ⟨Ex.refl _, d, h1, h2.mono e⟩
theorem walk_st {s : Str} : WalkD K C (Its s) (hide O H) (strD s) where
  goes := fun i O' H' e hi => by show i < s.cps.size; simpa [strD] using hi
  stops := fun O' H' e => by show s.cps.size ≤ (strD s).length; simp [strD]
  yields := fun i O' H' x H'' dm e hi y => by
    obtain ⟨rfl, c, h1, rfl⟩ := y
    refine ⟨Ex.refl _, .str ⟨#[c]⟩, ?_, .str _⟩
    have h2 : s.cps.toList[i]? = some c := by simpa using h1
    simp [strD, h2]
theorem walk_rg {lo : Int} {n : Nat} : WalkD K C (Itr lo n) (hide O H) (rngD lo n) where
  goes := fun i O' H' e hi => by show i < n; simpa [rngD] using hi
  stops := fun O' H' e => by show n ≤ (rngD lo n).length; simp [rngD]
  yields := fun i O' H' x H'' dm e hi y => by
    obtain ⟨rfl, rfl⟩ := y
    have hi' : i < n := by simpa [rngD] using hi
    refine ⟨Ex.refl _, .int (lo + (i : Nat)), ?_, .int _⟩
    simp [rngD, hi']
theorem walk_rgC {lo c : Int} {n : Nat} : WalkD K C (Itc lo c n) (hide O H) (rngC lo c n) where
  goes := fun i O' H' e hi => by show i < n; simpa [rngC] using hi
  stops := fun O' H' e => by show n ≤ (rngC lo c n).length; simp [rngC]
  yields := fun i O' H' x H'' dm e hi y => by
    obtain ⟨rfl, rfl⟩ := y
    have hi' : i < n := by simpa [rngC] using hi
    refine ⟨Ex.refl _, .int (lo + (i : Nat) * c), ?_, .int _⟩
    simp [rngC, hi']
/-- a new pair at T -/
theorem pair_rep {H' : Hp} {O' : List Addr} {T : Addr} {x y : V} {d e : D} (dm : Dm O' H') (hT : H' T = none) (r1 : Rep K C (hide O' H') x d) (r2 : Rep K C (hide O' H') y e) : Rep K C (hide O' (upd H' T (.tup [x, y]))) (.ref T) (.tup [d, e]) :=
  new_tup dm hT (.cons r1 (.cons r2 .nil))
theorem walk_en (h : hide O H a = some (.lst vs)) (r : Reps K C (hide O H) vs ds) : WalkD K C (Ite K a) (hide O H) (enumD 0 ds) where
  goes := fun i O' H' e hi => by
    rw [enumD_length] at hi
    have hv : i < vs.length := by rw [r.length]; exact hi
    exact ⟨vs, vs[i], SqL.of (hide_ex _ _ (e a _ h)), by simp [hv]⟩
  stops := fun O' H' e => ⟨vs, SqL.of (hide_ex _ _ (e a _ h)), by rw [r.length, enumD_length]; exact Nat.le_refl _⟩
  yields := fun i O' H' x H'' dm e hi y => by
    obtain ⟨T, z, rfl, hT, rfl, hy⟩ := y
    obtain ⟨d, h1, h2⟩ := r.getV (hy vs (SqL.of (hide_ex _ _ (e a _ h))))
    have q := enumD_get 0 ds i d h1
    rw [Nat.zero_add] at q
    exact ⟨Ex.new hT, _, q, pair_rep dm hT (.int _) (h2.mono e)⟩
theorem walk_enT (h : SqT K (hide O H) a vs) (r : Reps K C (hide O H) vs ds) : WalkD K C (IteT K a) (hide O H) (enumD 0 ds) where
  goes := fun i O' H' e hi => by
    rw [enumD_length] at hi
    have hv : i < vs.length := by rw [r.length]; exact hi
    exact ⟨vs, vs[i], ex_t hide_ex (ex_t e h), by simp [hv]⟩
  stops := fun O' H' e => ⟨vs, ex_t hide_ex (ex_t e h), by rw [r.length, enumD_length]⟩
  yields := fun i O' H' x H'' dm e hi y => by
    obtain ⟨T, z, rfl, hT, rfl, hy⟩ := y
    obtain ⟨d, h1, h2⟩ := r.getV (hy vs (ex_t hide_ex (ex_t e h)))
    have q := enumD_get 0 ds i d h1
    rw [Nat.zero_add] at q
    exact ⟨Ex.new hT, _, q, pair_rep dm hT (.int _) (h2.mono e)⟩
theorem walk_zp {s : Str} (h : SqT K (hide O H) b vs) (r : Reps K C (hide O H) vs ds) : WalkD K C (ItzS K s b) (hide O H) (zipD s.cps.toList ds) where
  goes := fun i O' H' e hi => by
    rw [zipD_length] at hi
    have hv : i < vs.length := by rw [r.length]; omega
    have hc : i < s.cps.size := by
      have : s.cps.toList.length = s.cps.size := by simp
      omega
    exact ⟨vs, s.cps[i], vs[i], ex_t hide_ex (ex_t e h), by simp [hc], by simp [hv]⟩
  stops := fun O' H' e => by
    have l1 : s.cps.toList.length = s.cps.size := by simp
    have l2 := r.length
    refine ⟨vs, ex_t hide_ex (ex_t e h), ?_, ?_, ?_⟩
    · rw [zipD_length]; omega
    · rw [zipD_length]; omega
    · rw [zipD_length]; omega
  yields := fun i O' H' x H'' dm e hi y => by
    obtain ⟨T, c, z, rfl, hT, rfl, hc, hy⟩ := y
    obtain ⟨d, h1, h2⟩ := r.getV (hy vs (ex_t hide_ex (ex_t e h)))
    have hc' : s.cps.toList[i]? = some c := by simpa using hc
    exact ⟨Ex.new hT, _, zipD_get _ _ i c d hc' h1, pair_rep dm hT (.str _) (h2.mono e)⟩
end

/-! ### iterators -/
section
variable {X : Cx} {C : Addr} {tg e e2 : Expr} {es : List Expr} {f : DTe} {fa : DTa} {pos p : Pos}
@[simp] def dSeqL (f : DTe) : DTa := fun ρ π Q => f ρ π fun d π1 => ∃ ds, d = .lst ds ∧ Q ds π1
@[simp] def dSeqT (f : DTe) : DTa := fun ρ π Q => f ρ π fun d π1 => ∃ ds, d = .tup ds ∧ Q ds π1
@[simp] def dSeqS (f : DTe) : DTa := fun ρ π Q => f ρ π fun d π1 => ∃ s, d = .str s ∧ Q (strD s) π1
theorem di_list (h : DE X C e f) : DI X C tg e (dSeqL f) where
  pi := fun F => pi_weak (pi_list (h.pe F)) fun σ H R ⟨ρ, π, O, S, q⟩ => ⟨ρ, π, O, S, h.mono _ _ _ _ (fun d π1 ⟨ds, e, q1⟩ v H1 s1 r1 => by
    subst e
    obtain ⟨a, vs, rfl, h1, r2⟩ := r1.lst_iff
    exact ⟨a, rfl, ⟨vs, SqL.of (hide_ex _ _ h1)⟩, q1 _ _ s1 (walk_lst h1 r2)⟩) q⟩
  mono := fun ρ π Q Q' q hh => h.mono _ _ _ _ (fun d π1 ⟨ds, e, h1⟩ => ⟨ds, e, q _ _ h1⟩) hh
theorem di_tup (h : DE X C e f) : DI X C tg e (dSeqT f) where
  pi := fun F => pi_weak (pi_tup (h.pe F)) fun σ H R ⟨ρ, π, O, S, q⟩ => ⟨ρ, π, O, S, h.mono _ _ _ _ (fun d π1 ⟨ds, e, q1⟩ v H1 s1 r1 => by
    subst e
    obtain ⟨a, vs, rfl, h1, r2⟩ := r1.tup_iff
    exact ⟨a, rfl, ⟨vs, ex_t hide_ex h1⟩, q1 _ _ s1 (walk_tp h1 r2)⟩) q⟩
  mono := fun ρ π Q Q' q hh => h.mono _ _ _ _ (fun d π1 ⟨ds, e, h1⟩ => ⟨ds, e, q _ _ h1⟩) hh
theorem di_str (h : DE X C e f) : DI X C tg e (dSeqS f) where
  pi := fun F => pi_weak (pi_str (h.pe F)) fun σ H R ⟨ρ, π, O, S, q⟩ => ⟨ρ, π, O, S, h.mono _ _ _ _ (fun d π1 ⟨ds, e, q1⟩ v H1 s1 r1 => by
    subst e
    exact ⟨ds, r1.str_iff, q1 _ _ s1 walk_st⟩) q⟩
  mono := fun ρ π Q Q' q hh => h.mono _ _ _ _ (fun d π1 ⟨ds, e, h1⟩ => ⟨ds, e, q _ _ h1⟩) hh
@[simp] def dRng1 (fa : DTa) : DTa := fun ρ π Q => fa ρ π fun ds π1 => ∃ j : Int, ds = [.int j] ∧ -(2 ^ 62) ≤ j ∧ j < 2 ^ 62 ∧ Q (rngD 0 j.toNat) π1
theorem di_range1 (hg : Gl X "range") (hm : X.mg "range" = none) (ha : DA X C [e] fa) (hs : starEach [e] X.env = [(false, eval e X.env)] := by rfl) : DI X C tg (.Call (.Name "range" p) [e] [] pos) (dRng1 fa) where
  pi := fun F => pi_weak (pi_range1 hg hm (ha.pa F) hs) fun σ H R ⟨ρ, π, O, S, q⟩ => ⟨ρ, π, O, S, ha.mono _ _ _ _ (fun ds π1 ⟨j, e, h1, h2, q1⟩ vs H1 s1 r1 => by
    subst e
    obtain ⟨v, rfl, rv⟩ := r1.one
    rw [rv.int_iff]
    exact ⟨j, rfl, h1, h2, q1 _ _ s1 walk_rg⟩) q⟩
  mono := fun ρ π Q Q' q hh => ha.mono _ _ _ _ (fun d π1 ⟨j, e, h1, h2, h3⟩ => ⟨j, e, h1, h2, q _ _ h3⟩) hh
@[simp] def dRng2 (fa : DTa) : DTa := fun ρ π Q => fa ρ π fun ds π1 => ∃ i j : Int, ds = [.int i, .int j] ∧ (-(2 ^ 62) ≤ i ∧ i < 2 ^ 62 ∧ -(2 ^ 62) ≤ j ∧ j < 2 ^ 62) ∧ Q (rngD i (j - i).toNat) π1
theorem di_range2 (hg : Gl X "range") (hm : X.mg "range" = none) (ha : DA X C [e, e2] fa) (hs : starEach [e, e2] X.env = [(false, eval e X.env), (false, eval e2 X.env)] := by rfl) (hs2 : starEach [e2] X.env = [(false, eval e2 X.env)] := by rfl) :
    DI X C tg (.Call (.Name "range" p) [e, e2] [] pos) (dRng2 fa) where
  pi := fun F => pi_weak (pi_range2 hg hm (ha.pa F) hs hs2) fun σ H R ⟨ρ, π, O, S, q⟩ => ⟨ρ, π, O, S, ha.mono _ _ _ _ (fun ds π1 ⟨i, j, e, h1, q1⟩ vs H1 s1 r1 => by
    subst e
    obtain ⟨v, w, rfl, rv, rw'⟩ := r1.two
    rw [rv.int_iff, rw'.int_iff]
    exact ⟨i, j, rfl, h1, q1 _ _ s1 walk_rg⟩) q⟩
  mono := fun ρ π Q Q' q hh => ha.mono _ _ _ _ (fun d π1 ⟨i, j, e, h1, h3⟩ => ⟨i, j, e, h1, q _ _ h3⟩) hh
@[simp] def dRng3 (fa : DTa) : DTa := fun ρ π Q => fa ρ π fun ds π1 => ∃ i j : Int, ds = [.int i, .int j, .int (-1)] ∧ (-(2 ^ 62) ≤ i ∧ i < 2 ^ 62 ∧ -(2 ^ 62) ≤ j ∧ j < 2 ^ 62) ∧ Q (rngC i (-1) (i - j).toNat) π1
theorem di_range3 {e3 : Expr} (hg : Gl X "range") (hm : X.mg "range" = none) (ha : DA X C [e, e2, e3] fa) (hs : starEach [e, e2, e3] X.env = (false, eval e X.env) :: starEach [e2, e3] X.env := by rfl) (hpl : (backTo pos (starEach [e2, e3] X.env)).any (·.1) = false := by rfl) :
    DI X C tg (.Call (.Name "range" p) [e, e2, e3] [] pos) (dRng3 fa) where
  pi := fun F => pi_weak (pi_range3 hg hm (ha.pa F) hs hpl) fun σ H R ⟨ρ, π, O, S, q⟩ => ⟨ρ, π, O, S, ha.mono _ _ _ _ (fun ds π1 ⟨i, j, e, ⟨h1, h2, h3, h4⟩, q1⟩ vs H1 s1 r1 => by
    subst e
    cases r1 with
    | cons rv r1 =>
      obtain ⟨w, w3, rfl, rw', rw3⟩ := r1.two
      rw [rv.int_iff, rw'.int_iff, rw3.int_iff]
      exact ⟨i, j, -1, (i - j).toNat, rfl, RgC.neg h1 h2 h3 h4, q1 _ _ s1 walk_rgC⟩) q⟩
  mono := fun ρ π Q Q' q hh => ha.mono _ _ _ _ (fun d π1 ⟨i, j, e, h1, h3⟩ => ⟨i, j, e, h1, q _ _ h3⟩) hh
variable {elts : List Expr} {kk : Nat} {tpos : Pos}
@[simp] def dEnL (fa : DTa) : DTa := fun ρ π Q => fa ρ π fun ds π1 => ∃ es, ds = [.lst es] ∧ Q (enumD 0 es) π1
@[simp] def dEnT (fa : DTa) : DTa := fun ρ π Q => fa ρ π fun ds π1 => ∃ es, ds = [.tup es] ∧ Q (enumD 0 es) π1
theorem di_enum (hg : Gl X "enumerate") (hm : X.mg "enumerate" = none) (ha : DA X C [e] fa) (hs : starEach [e] X.env = [(false, eval e X.env)] := by rfl) : DI X C (.Tuple elts kk tpos) (.Call (.Name "enumerate" p) [e] [] pos) (dEnL fa) where
  pi := fun F => pi_weak (pi_enum hg hm (ha.pa F) hs) fun σ H R ⟨ρ, π, O, S, q⟩ => ⟨ρ, π, O, S, ha.mono _ _ _ _ (fun ds π1 ⟨es, e, q1⟩ vs H1 s1 r1 => by
    subst e
    obtain ⟨v, rfl, rv⟩ := r1.one
    obtain ⟨a, ws, rfl, h1, r2⟩ := rv.lst_iff
    exact ⟨a, ws, rfl, SqL.of (hide_ex _ _ h1), q1 _ _ s1 (walk_en h1 r2)⟩) q⟩
  mono := fun ρ π Q Q' q hh => ha.mono _ _ _ _ (fun d π1 ⟨es, e, h3⟩ => ⟨es, e, q _ _ h3⟩) hh
theorem di_enumT (hg : Gl X "enumerate") (hm : X.mg "enumerate" = none) (ha : DA X C [e] fa) (hs : starEach [e] X.env = [(false, eval e X.env)] := by rfl) : DI X C (.Tuple elts kk tpos) (.Call (.Name "enumerate" p) [e] [] pos) (dEnT fa) where
  pi := fun F => pi_weak (pi_enumT hg hm (ha.pa F) hs) fun σ H R ⟨ρ, π, O, S, q⟩ => ⟨ρ, π, O, S, ha.mono _ _ _ _ (fun ds π1 ⟨es, e, q1⟩ vs H1 s1 r1 => by
    subst e
    obtain ⟨v, rfl, rv⟩ := r1.one
    obtain ⟨a, ws, rfl, h1, r2⟩ := rv.tup_iff
    exact ⟨a, ws, rfl, ex_t hide_ex h1, q1 _ _ s1 (walk_enT h1 r2)⟩) q⟩
  mono := fun ρ π Q Q' q hh => ha.mono _ _ _ _ (fun d π1 ⟨es, e, h3⟩ => ⟨es, e, q _ _ h3⟩) hh
@[simp] def dZip (fa : DTa) : DTa := fun ρ π Q => fa ρ π fun ds π1 => ∃ s es, ds = [.str s, .tup es] ∧ Q (zipD s.cps.toList es) π1
theorem di_zip (hg : Gl X "zip") (hm : X.mg "zip" = none) (ha : DA X C [e, e2] fa) (hs : starEach [e, e2] X.env = (false, eval e X.env) :: starEach [e2] X.env := by rfl) (hpl : (backTo pos (starEach [e2] X.env)).any (·.1) = false := by rfl) :
    DI X C (.Tuple elts kk tpos) (.Call (.Name "zip" p) [e, e2] [] pos) (dZip fa) where
  pi := fun F => pi_weak (pi_zipS hg hm (ha.pa F) hs hpl) fun σ H R ⟨ρ, π, O, S, q⟩ => ⟨ρ, π, O, S, ha.mono _ _ _ _ (fun ds π1 ⟨s, es, e, q1⟩ vs H1 s1 r1 => by
    subst e
    obtain ⟨v, w, rfl, rv, rw'⟩ := r1.two
    rw [rv.str_iff]
    obtain ⟨a, ws, rfl, h1, r2⟩ := rw'.tup_iff
    exact ⟨s, a, ws, rfl, ex_t hide_ex h1, q1 _ _ s1 (walk_zp h1 r2)⟩) q⟩
  mono := fun ρ π Q Q' q hh => ha.mono _ _ _ _ (fun d π1 ⟨s, es, e, h3⟩ => ⟨s, es, e, q _ _ h3⟩) hh
end

/-! ### slots stored -/
section
variable {K : PySem.W.Frag} {C : Addr} {F : Fr} {O : List Addr} {H H' : Hp} {σ : St} {ρ : DEnv} {π π' : Pu} {i : Nat} {v : V} {d : D}
theorem sl_set {s t : Sl} {j : Nat} (h : (ρ.set i s)[j]? = some t) : (i = j ∧ i < ρ.length ∧ t = s) ∨ (i ≠ j ∧ ρ[j]? = some t) := by
  by_cases e : i = j
  · subst e
    by_cases hl : i < ρ.length
    · rw [List.getElem?_set_self hl] at h
      exact .inl ⟨rfl, hl, (Option.some.inj h).symm⟩
    · rw [List.getElem?_eq_none (by simpa using hl)] at h; cases h
  · rw [List.getElem?_set_ne e] at h
    exact .inr ⟨e, h⟩
theorem RS.set (R : RS K C F O H σ ρ π) (r : Rep K C (hide O H) v d) : RS K C F O H (σ.set i (some v)) (ρ.set i (.pu d)) π where
  pres := R.pres
  dom := R.dom
  sub := R.sub
  pu := R.pu
  pu0 := R.pu0
  sl := fun j d' h => by
    rcases sl_set h with ⟨e, hl, q⟩ | ⟨e, q⟩
    · subst e
      cases q
      exact ⟨v, by rw [List.getElem?_set_self (Nat.lt_of_lt_of_le hl R.len)], r⟩
    · obtain ⟨w, h1, h2⟩ := R.sl j d' q
      exact ⟨w, by rw [List.getElem?_set_ne e]; exact h1, h2⟩
  ow := fun j ds h => by
    rcases sl_set h with ⟨e, hl, q⟩ | ⟨e, q⟩
    · cases q
    · obtain ⟨p, vs, h1, h2⟩ := R.ow j ds q
      exact ⟨p, vs, by rw [List.getElem?_set_ne e]; exact h1, h2⟩
  dis := fun j k p ds es hne h1 h2 h3 => by
    rcases sl_set h1 with ⟨e, hl, q⟩ | ⟨e, q⟩
    · cases q
    · rcases sl_set h2 with ⟨e', hl', q'⟩ | ⟨e', q'⟩
      · cases q'
      · rw [List.getElem?_set_ne e] at h3
        rw [List.getElem?_set_ne e']
        exact R.dis j k p ds es hne q q' h3
  len := by rw [List.length_set, List.length_set]; exact R.len
/-- slots forgotten -/
theorem RS.wipe (R : RS K C F O H σ ρ π) {σ' : St} {ρ' : DEnv} (hl : ρ'.length ≤ σ'.length) (h : ∀ (j : Nat) (s : Sl), ρ'[j]? = some s → s ≠ .no → ρ[j]? = some s ∧ σ'[j]? = σ[j]?) : RS K C F O H σ' ρ' π where
  pres := R.pres
  dom := R.dom
  sub := R.sub
  pu := R.pu
  pu0 := R.pu0
  sl := fun j d' q => by
    obtain ⟨h1, h2⟩ := h j _ q (fun z => nomatch z)
    rw [h2]
    exact R.sl j d' h1
  ow := fun j ds q => by
    obtain ⟨h1, h2⟩ := h j _ q (fun z => nomatch z)
    rw [h2]
    exact R.ow j ds h1
  dis := fun j k p ds es hne q1 q2 h3 => by
    obtain ⟨h1, h2⟩ := h j _ q1 (fun z => nomatch z)
    obtain ⟨h1', h2'⟩ := h k _ q2 (fun z => nomatch z)
    rw [h2] at h3
    rw [h2']
    exact R.dis j k p ds es hne h1 h1' h3
  len := hl
/-- a new list becomes a slot's own -/
theorem RS.own (R : RS K C F O H σ ρ π) (s : Stp π π' H H') {p : Addr} {vs : List V} {ds : List D} (hp : H p = none) (h0 : F.H0 p = none) (h' : H' p = some (.lst vs)) (r : Reps K C (hide (p :: O) H') vs ds) :
    Ex (hide O H) (hide (p :: O) H') ∧ RS K C F (p :: O) H' (σ.set i (some (.ref p))) (ρ.set i (.ow ds)) π' := by
  have R' := R.step s
  have ex : Ex (hide O H) (hide (p :: O) H') := fun b o hb => by
    have q := R.hide_stp s b o hb
    obtain ⟨q1, q2⟩ := hide_some q
    have ne : b ≠ p := fun e => by
      have := (hide_some hb).2
      rw [e, hp] at this; cases this
    rw [hide_out (by simp only [List.mem_cons, not_or]; exact ⟨ne, q1⟩)]
    exact q2
  have npu : ∀ a l, π' = some (a, l) → p ≠ a := fun a l e z => by
    obtain ⟨h1, _, _⟩ := R'.pu a l e
    have hO : p ∈ O := z ▸ h1
    obtain ⟨o, q⟩ := R.dom p hO
    rw [hp] at q; cases q
  refine ⟨ex, ?_⟩
  constructor
  · exact R'.pres
  · intro b hb
    rcases List.mem_cons.mp hb with e | hb
    · exact ⟨_, e ▸ h'⟩
    · exact R'.dom b hb
  · exact fun b hb => List.mem_cons_of_mem _ (R.sub b hb)
  · intro a l e
    obtain ⟨h1, h2, h3⟩ := R'.pu a l e
    exact ⟨List.mem_cons_of_mem _ h1, h2, h3⟩
  · exact R'.pu0
  · intro j d' q
    rcases sl_set q with ⟨e, hl, q⟩ | ⟨e, q⟩
    · cases q
    · obtain ⟨w, h1, h2⟩ := R.sl j d' q
      exact ⟨w, by rw [List.getElem?_set_ne e]; exact h1, h2.mono ex⟩
  · intro j es q
    rcases sl_set q with ⟨e, hl, q'⟩ | ⟨e, q⟩
    · subst e
      cases q'
      exact ⟨p, vs, by rw [List.getElem?_set_self (Nat.lt_of_lt_of_le hl R.len)], List.mem_cons_self, h0, h', r, npu⟩
    · obtain ⟨p', ws, h1, h2, h3, h4, h5, h6⟩ := R'.ow j es q
      obtain ⟨p2, ws2, g1, g2, g3, g4, g5, g6⟩ := R.ow j es q
      rw [h1] at g1
      cases g1
      have e4 : ws2 = ws := by
        have := s.keep p' _ g4 g6
        rw [h4] at this
        cases this; rfl
      subst e4
      exact ⟨p', ws2, by rw [List.getElem?_set_ne e]; exact h1, List.mem_cons_of_mem _ h2, h3, h4, g5.mono ex, h6⟩
  · intro j k q ds' es hne q1 q2 h3
    rcases sl_set q1 with ⟨e, hl, z⟩ | ⟨e, z⟩
    · subst e
      rcases sl_set q2 with ⟨e', hl', z'⟩ | ⟨e', z'⟩
      · exact absurd e' hne
      · rw [List.getElem?_set_self (Nat.lt_of_lt_of_le hl R.len)] at h3
        cases h3
        rw [List.getElem?_set_ne e']
        intro z2
        obtain ⟨p2, ws2, g1, g2, g3, g4, _⟩ := R.ow k es z'
        rw [g1] at z2
        cases z2
        rw [hp] at g4; cases g4
    · rcases sl_set q2 with ⟨e', hl', z'⟩ | ⟨e', z'⟩
      · subst e'
        rw [List.getElem?_set_ne e] at h3
        rw [List.getElem?_set_self (Nat.lt_of_lt_of_le hl' R.len)]
        intro z2
        cases z2
        obtain ⟨p2, ws2, g1, g2, g3, g4, _⟩ := R.ow j ds' z
        rw [g1] at h3
        cases h3
        rw [hp] at g4; cases g4
      · rw [List.getElem?_set_ne e] at h3
        rw [List.getElem?_set_ne e']
        exact R.dis j k q ds' es hne z z' h3
  · rw [List.length_set, List.length_set]; exact R.len
/-- a slot's own list is changed -/
theorem RS.mut (R : RS K C F O H σ ρ π) {ds es : List D} {p : Addr} {ws : List V} (h : ρ[i]? = some (Sl.ow ds)) (hs : σ[i]? = some (some (V.ref p))) (r : Reps K C (hide O H) ws es) :
    Ex (hide O H) (hide O (upd H p (.lst ws))) ∧ RS K C F O (upd H p (.lst ws)) σ (ρ.set i (.ow es)) π := by
  obtain ⟨p', vs, h1, h2, h3, h4, h5, h6⟩ := R.ow i ds h
  rw [hs] at h1
  cases h1
  have ex : Ex (hide O H) (hide O (upd H p (.lst ws))) := fun b o hb => by
    obtain ⟨q1, q2⟩ := hide_some hb
    have ne : b ≠ p := fun e => q1 (e ▸ h2)
    rw [hide_out q1, upd_ne ne]
    exact q2
  refine ⟨ex, ?_⟩
  constructor
  · intro b o hb hn
    have ne : b ≠ p := fun e => by rw [e, h3] at hb; cases hb
    rw [upd_ne ne]
    exact R.pres b o hb hn
  · intro b hb
    by_cases e : b = p
    · exact ⟨_, by rw [e]; exact upd_same⟩
    · rw [upd_ne e]; exact R.dom b hb
  · exact R.sub
  · intro a l e
    obtain ⟨g1, g2, g3⟩ := R.pu a l e
    refine ⟨g1, ?_, g3⟩
    rw [upd_ne (Ne.symm (h6 a l e))]
    exact g2
  · exact R.pu0
  · intro j d' q
    rcases sl_set q with ⟨e, hl, q⟩ | ⟨e, q⟩
    · cases q
    · obtain ⟨w, g1, g2⟩ := R.sl j d' q
      exact ⟨w, g1, g2.mono ex⟩
  · intro j es' q
    rcases sl_set q with ⟨e, hl, q'⟩ | ⟨e, q⟩
    · subst e
      cases q'
      exact ⟨p, ws, hs, h2, h3, upd_same, r.mono ex, h6⟩
    · obtain ⟨p2, ws2, g1, g2, g3, g4, g5, g6⟩ := R.ow j es' q
      have ne : p2 ≠ p := fun z => by
        subst z
        exact R.dis i j p2 ds es' e h q hs g1
      exact ⟨p2, ws2, g1, g2, g3, by rw [upd_ne ne]; exact g4, g5.mono ex, g6⟩
  · intro j k q ds' es' hne q1 q2 h3'
    rcases sl_set q1 with ⟨e, hl, z⟩ | ⟨e, z⟩
    · subst e
      rcases sl_set q2 with ⟨e', hl', z'⟩ | ⟨e', z'⟩
      · exact absurd e' hne
      · exact R.dis i k q ds es' hne h z' h3'
    · rcases sl_set q2 with ⟨e', hl', z'⟩ | ⟨e', z'⟩
      · subst e'
        exact R.dis j i q ds' ds hne z h h3'
      · exact R.dis j k q ds' es' hne z z' h3'
  · rw [List.length_set]; exact R.len
end
end Kp
set_option maxRecDepth 100000
set_option maxHeartbeats 2000000
/-! Dl6: targets, comprehensions, new lists, statements, defs, over data -/
namespace Kp
open PySem PySem.Spec L2

/-! ### targets -/
inductive Tgt where
  | one (i : Nat)
  /-- a tuple unpacked | a list unpacked -/
  | many (is : List Nat)
  | manyL (is : List Nat)
def Tgt.slots : Tgt → List Nat
  | .one i => [i]
  | .many is => is
  | .manyL is => is
def gNames : List Nat → TGs
  | [] => gNil
  | i :: r => gCons (gName i) (gNames r)
def tgR (K : PySem.W.Frag) : Tgt → TG
  | .one i => gName i
  | .many is => gTup K is.length (gNames is)
  | .manyL is => gUnl K is.length (gNames is)
structure DG (X : Cx) (tg : Expr) (T : Tgt) : Prop where
  pg : PG X tg (tgR X.K T)
structure DGs (X : Cx) (tgs : List Expr) (is : List Nat) : Prop where
  pgs : PGs X tgs (gNames is)
section
variable {X : Cx} {pos : Pos}
theorem dg_name {i : Nat} {x : Str} (hN : X.N.Nodup) (hi : X.N[i]? = some x := by rfl) (hx : Loc X.env.scope x := by first | exact Or.inl rfl | exact Or.inr rfl) (hf : X.fn x = true ∨ X.env.scope.names.lookup x = some .local := by first | exact .inl rfl | exact .inr rfl) : DG X (.Name x pos) (.one i) :=
  ⟨pg_name hN hi hx hf⟩
theorem dgs_nil : DGs X [] [] := ⟨pgs_nil⟩
theorem dgs_cons {i : Nat} {x : Str} {es : List Expr} {is : List Nat} (hN : X.N.Nodup) (h2 : DGs X es is) (hi : X.N[i]? = some x := by rfl) (hx : Loc X.env.scope x := by first | exact Or.inl rfl | exact Or.inr rfl) (hf : X.fn x = true ∨ X.env.scope.names.lookup x = some .local := by first | exact .inl rfl | exact .inr rfl)
    (hs : (assignEach (.Name x pos :: es) X.env).map (·.2) = assign (.Name x pos) X.env :: (assignEach es X.env).map (·.2) := by rfl) : DGs X (.Name x pos :: es) (i :: is) :=
  ⟨pgs_cons (pg_name hN hi hx hf) h2.pgs hs⟩
theorem dg_tup {es : List Expr} {is : List Nat} {k : Nat} (hc : X.calm = true) (h : DGs X es is) (hn : (assignEach es X.env).length = is.length := by rfl) (hst : (assignEach es X.env).findIdx? (·.1) = none := by rfl) : DG X (.Tuple es k pos) (.many is) :=
  ⟨pg_tup hc h.pgs hn hst⟩
theorem dg_unl {es : List Expr} {is : List Nat} {k : Nat} (hc : X.calm = true) (h : DGs X es is) (hn : (assignEach es X.env).length = is.length := by rfl) (hst : (assignEach es X.env).findIdx? (·.1) = none := by rfl) : DG X (.Tuple es k pos) (.manyL is) :=
  ⟨pg_unl hc h.pgs hn hst⟩
end
@[simp] def setsD : DEnv → List Nat → List D → DEnv
  | ρ, i :: is, d :: ds => setsD (ρ.set i (.pu d)) is ds
  | ρ, _, _ => ρ
def setsV : St → List Nat → List V → St
  | σ, i :: is, v :: vs => setsV (σ.set i (some v)) is vs
  | σ, _, _ => σ
@[simp] def stD : Tgt → D → DEnv → (DEnv → Prop) → Prop
  | .one i, d, ρ, Q => Q (ρ.set i (.pu d))
  | .many is, d, ρ, Q => ∃ ds, d = .tup ds ∧ ds.length = is.length ∧ Q (setsD ρ is ds)
  | .manyL is, d, ρ, Q => ∃ ds, d = .lst ds ∧ ds.length = is.length ∧ Q (setsD ρ is ds)
theorem stD_mono {T : Tgt} {d : D} {ρ : DEnv} {Q Q' : DEnv → Prop} (q : ∀ ρ, Q ρ → Q' ρ) (h : stD T d ρ Q) : stD T d ρ Q' := by
  cases T with
  | one i => exact q _ h
  | many is => obtain ⟨ds, e, l, z⟩ := h; exact ⟨ds, e, l, q _ z⟩
  | manyL is => obtain ⟨ds, e, l, z⟩ := h; exact ⟨ds, e, l, q _ z⟩
section
variable {K : PySem.W.Frag} {C : Addr} {F : Fr} {O : List Addr} {H : Hp} {σ : St} {ρ : DEnv} {π : Pu}
theorem names_run : ∀ {is : List Nat} {xs : List V} {ds : List D} {σ : St} {ρ : DEnv} {Q : St → Hp → Prop}, RS K C F O H σ ρ π → Reps K C (hide O H) xs ds → ds.length = is.length →
    (∀ σ', RS K C F O H σ' (setsD ρ is ds) π → (∃ ys, σ' = setsV σ is ys) → Q σ' H) → gNames is xs σ H Q
  | [], _, _, σ, ρ, Q, R, r, l, q => by
    have e := List.eq_nil_of_length_eq_zero l
    subst e
    cases r
    exact ⟨rfl, q σ R ⟨[], rfl⟩⟩
  | i :: is, _, [], σ, ρ, Q, R, r, l, q => by cases l
  | i :: is, _, d :: ds, σ, ρ, Q, R, .cons (v := v) (vs := vs) h r, l, q => by
    refine ⟨v, vs, rfl, ?_⟩
    refine names_run (R.set h) r (Nat.succ.inj l) fun σ' R' ⟨ys, e⟩ => q σ' R' ⟨v :: ys, e⟩
theorem tg_run {T : Tgt} {x : V} {d : D} {Qd : DEnv → Prop} {Q : St → Hp → Prop} (R : RS K C F O H σ ρ π) (r : Rep K C (hide O H) x d) (h : stD T d ρ Qd) (q : ∀ ρ' σ', Qd ρ' → RS K C F O H σ' ρ' π → (∃ ys, σ' = setsV σ T.slots ys) → Q σ' H) :
    tgR K T x σ H Q := by
  cases T with
  | one i => exact q _ _ h (R.set r) ⟨[x], rfl⟩
  | many is =>
    obtain ⟨ds, e, l, z⟩ := h
    subst e
    obtain ⟨a, vs, rfl, h1, r1⟩ := r.tup_iff
    exact ⟨a, vs, rfl, ex_t hide_ex h1, by rw [r1.length]; exact l, names_run R r1 l fun σ' R' y => q _ σ' z R' y⟩
  | manyL is =>
    obtain ⟨ds, e, l, z⟩ := h
    subst e
    obtain ⟨a, vs, rfl, h1, r1⟩ := r.lst_iff
    exact ⟨a, vs, rfl, SqL.of (hide_ex _ _ h1), by rw [r1.length]; exact l, names_run R r1 l fun σ' R' y => q _ σ' z R' y⟩
end

/-! ### wiping -/
theorem wipe_get (σ : St) : ∀ (vs : List Nat) (j : Nat), (wipe σ vs)[j]? = if j ∈ vs then (σ[j]?).map (fun _ => none) else σ[j]?
  | [], j => by simp [L2.wipe]
  | v :: vs, j => by
    show ((wipe σ vs).set v none)[j]? = _
    by_cases e : v = j
    · subst e
      rw [if_pos List.mem_cons_self]
      by_cases hl : v < (wipe σ vs).length
      · rw [List.getElem?_set_self hl]
        rw [wipe_length] at hl
        simp [hl]
      · rw [List.getElem?_eq_none (by simpa using hl)]
        rw [wipe_length] at hl
        simp [List.getElem?_eq_none (Nat.le_of_not_lt hl)]
    · rw [List.getElem?_set_ne e, wipe_get σ vs j]
      have e' : j ≠ v := Ne.symm e
      simp [e']
theorem wipe_wipe (σ : St) (vs : List Nat) : wipe (wipe σ vs) vs = wipe σ vs := by
  apply List.ext_getElem?
  intro j
  rw [wipe_get, wipe_get]
  by_cases h : j ∈ vs
  · rw [if_pos h, if_pos h]; cases σ[j]? <;> rfl
  · rw [if_neg h, if_neg h]
theorem wipe_set {σ : St} {vs : List Nat} {i : Nat} {x : Option V} (h : i ∈ vs) : wipe (σ.set i x) vs = wipe σ vs := by
  apply List.ext_getElem?
  intro j
  rw [wipe_get, wipe_get]
  by_cases e : i = j
  · subst e
    rw [if_pos h, if_pos h]
    by_cases hl : i < σ.length
    · rw [List.getElem?_set_self hl]; simp [hl]
    · rw [List.getElem?_eq_none (by simpa using hl), List.getElem?_eq_none (Nat.le_of_not_lt hl)]
  · rw [List.getElem?_set_ne e]
theorem wipe_sets {vs : List Nat} : ∀ {is : List Nat} {ys : List V} {σ : St}, (∀ i ∈ is, i ∈ vs) → wipe (setsV σ is ys) vs = wipe σ vs
  | [], _, _, _ => rfl
  | i :: is, [], _, _ => rfl
  | i :: is, y :: ys, σ, h => by
    show wipe (setsV (σ.set i (some y)) is ys) vs = _
    rw [wipe_sets fun j hj => h j (List.mem_cons_of_mem _ hj), wipe_set (h i List.mem_cons_self)]
@[simp] def wipeD (ρ : DEnv) : List Nat → DEnv
  | [] => ρ
  | v :: vs => (wipeD ρ vs).set v .no
theorem wipeD_length (ρ : DEnv) : ∀ vs, (wipeD ρ vs).length = ρ.length
  | [] => rfl
  | v :: vs => by unfold wipeD; rw [List.length_set, wipeD_length]
theorem wipeD_some {ρ : DEnv} {s : Sl} : ∀ {vs : List Nat} {j : Nat}, (wipeD ρ vs)[j]? = some s → s ≠ .no → ρ[j]? = some s ∧ j ∉ vs
  | [], j, h, _ => ⟨h, by simp⟩
  | v :: vs, j, h, n => by
    rcases sl_set h with ⟨e, hl, q⟩ | ⟨e, q⟩
    · exact absurd q n
    · obtain ⟨h1, h2⟩ := wipeD_some q n
      exact ⟨h1, by simp only [List.mem_cons, not_or]; exact ⟨fun z => e z.symm, h2⟩⟩

/-! ### new lists; comprehensions -/
section
variable (K : PySem.W.Frag) (C : Addr) (F : Fr)
/-- an expression that makes a new list -/
def tL (f : DTa) : TE := fun σ H Q => ∃ ρ π O, RS K C F O H σ ρ π ∧ f ρ π fun ds π' => ∀ p vs H', Stp π π' H H' → H p = none → H' p = some (.lst vs) → Reps K C (hide (p :: O) H') vs ds → Q (.ref p) H'
end
structure DL (X : Cx) (C : Addr) (e : Expr) (f : DTa) : Prop where
  pe : ∀ F, PE X e (tL X.K C F f)
  mono : ∀ ρ π Q Q', (∀ d π', Q d π' → Q' d π') → f ρ π Q → f ρ π Q'
@[simp] def dAsL (f : DTa) : DTe := fun ρ π Q => f ρ π fun ds π1 => Q (.lst ds) π1
def lcD (T : Tgt) (f : DTe) (ρ : DEnv) : List D → List D → Pu → (List D → Pu → Prop) → Prop
  | [], acc, π, Q => Q acc π
  | d :: r, acc, π, Q => acc.length < 1000000 ∧ stD T d ρ fun ρ' => f ρ' π fun e π1 => lcD T f ρ r (acc ++ [e]) π1 Q
@[simp] def dLc (wi : DTa) (T : Tgt) (f : DTe) (vs : List Nat) : DTa := fun ρ π Q => wi ρ π fun ds π1 => lcD T f (wipeD ρ vs) ds [] π1 Q
section
variable {X : Cx} {C : Addr} {e elt tg iter : Expr} {es : List Expr} {f : DTe} {fa wi : DTa} {T : Tgt} {pos : Pos}
theorem lcD_mono (mf : ∀ ρ π Q Q', (∀ d π', Q d π' → Q' d π') → f ρ π Q → f ρ π Q') {ρ : DEnv} : ∀ {ds acc : List D} {π : Pu} {Q Q' : List D → Pu → Prop}, (∀ d π', Q d π' → Q' d π') → lcD T f ρ ds acc π Q → lcD T f ρ ds acc π Q'
  | [], _, _, _, _, q, h => q _ _ h
  | d :: r, acc, π, Q, Q', q, h => ⟨h.1, stD_mono (fun ρ' z => mf _ _ _ _ (fun e π1 z1 => lcD_mono mf q z1) z) h.2⟩
theorem RS.nopu {K : PySem.W.Frag} {F : Fr} {O : List Addr} {H : Hp} {σ : St} {ρ : DEnv} {π : Pu} (R : RS K C F O H σ ρ π) {p : Addr} (h : H p = none) : F.H0 p = none := by
  cases q : F.H0 p with
  | none => rfl
  | some o =>
    by_cases e : F.pa = some p
    · obtain ⟨l, e2⟩ := R.pu0 p e
      have := (R.pu p l e2).2.1
      rw [h] at this; cases this
    · have := R.pres p o q e
      rw [h] at this; cases this
/-- a new list is hidden -/
theorem RS.addO {K : PySem.W.Frag} {F : Fr} {O : List Addr} {H H' : Hp} {σ : St} {ρ : DEnv} {π π' : Pu} (R : RS K C F O H σ ρ π) (s : Stp π π' H H') {p : Addr} {vs : List V} {ds : List D} (hp : H p = none) (h' : H' p = some (.lst vs)) (r : Reps K C (hide (p :: O) H') vs ds) :
    Ex (hide O H) (hide (p :: O) H') ∧ RS K C F (p :: O) H' σ ρ π' := by
  have q := R.own (i := ρ.length + σ.length) s hp (R.nopu hp) h' r
  rw [List.set_eq_of_length_le (Nat.le_add_left _ _), List.set_eq_of_length_le (Nat.le_add_right _ _)] at q
  exact q
theorem lc_to {K : PySem.W.Frag} {F : Fr} {own : List (Str × Nat)} {σ : St} {H : Hp} {Q : VK} (mw : ∀ ρ π Q Q', (∀ d π', Q d π' → Q' d π') → wi ρ π Q → wi ρ π Q') (mf : ∀ ρ π Q Q', (∀ d π', Q d π' → Q' d π') → f ρ π Q → f ρ π Q') (hT : ∀ i ∈ T.slots, i ∈ own.map (·.2))
    (q : tL K C F (dLc wi T f (own.map (·.2))) σ H Q) : tLc (tI K C F wi) (tgR K T) tYes (tE K C F f) (own.map (·.2)) σ H Q := by
  obtain ⟨ρ, π, O, R, q⟩ := q
  refine ⟨ρ, π, O, R, mw _ _ _ _ (fun ds π1 q1 J H1 s1 w1 D hD => ?_) q⟩
  have R1 := R.step s1
  have hD0 : H D = none := by
    cases z : H D with
    | none => rfl
    | some o =>
      cases hπ : π with
      | none =>
        have := s1.keep D o z (fun a l e => by rw [hπ] at e; cases e)
        rw [hD] at this; cases this
      | some al =>
        obtain ⟨a, l⟩ := al
        by_cases e : D = a
        · obtain ⟨l', _, e2⟩ := s1.pu a l hπ
          rw [← e, hD] at e2; cases e2
        · have := s1.keep D o z (fun a' l' e' => by rw [hπ] at e'; cases e'; exact e)
          rw [hD] at this; cases this
  let Inv' : Nat → Hp → Prop := fun i Hc => ∃ acc accD π2, Hc D = some (.lst acc) ∧ Reps K C (hide (D :: O) Hc) acc accD ∧ Stp π1 π2 H1 Hc ∧ lcD T f (wipeD ρ (own.map (·.2))) (ds.drop i) accD π2 fun ds' π' => ∀ p vs H', Stp π π' H H' → H p = none → H' p = some (.lst vs) → Reps K C (hide (p :: O) H') vs ds' → Q (.ref p) H'
  refine ⟨fun i m Hc => m = ds.length - i ∧ i ≤ ds.length ∧ Inv' i Hc, ⟨ds.length, by simp, Nat.zero_le _, [], [], π1, upd_same, .nil, R1.ex_stp (Ex.new hD), q1⟩, ?_⟩
  rintro i m Hc ⟨rfl, hle, acc, accD, π2, hDc, rD, sD, z⟩
  obtain ⟨ex1, R2⟩ := R1.addO sD hD hDc rD
  by_cases hlt : i < ds.length
  · refine .inr ⟨w1.goes i (D :: O) Hc ex1 hlt, Inv' (i + 1), fun H' n => ⟨ds.length - (i + 1), by omega, rfl, hlt, n⟩, fun x H' y => ?_⟩
    obtain ⟨ex2, d, hd, rd⟩ := w1.yields i (D :: O) Hc x H' R2.dom ex1 hlt y
    have hdrop : ds.drop i = d :: ds.drop (i + 1) := by
      obtain ⟨h1, h2⟩ := List.getElem?_eq_some_iff.mp hd
      rw [List.drop_eq_getElem_cons h1, h2]
    rw [hdrop] at z
    obtain ⟨hlen, z⟩ := z
    have R3 : RS K C F (D :: O) H' (L2.wipe σ (own.map (·.2))) (wipeD ρ (own.map (·.2))) π2 := (R2.grow ex2).wipe (by rw [wipeD_length, L2.wipe_length]; exact R.len) fun j s h n => by
      obtain ⟨h1, h2⟩ := wipeD_some h n
      exact ⟨h1, by rw [wipe_get, if_neg h2]⟩
    refine tg_run R3 rd z fun ρ' σ' z' R4 ⟨ys, eσ⟩ => ⟨by rw [eσ, wipe_sets hT, wipe_wipe], ?_⟩
    show (if (true : Bool) = true then tE K C F f σ' H' (fun y H4 => ∃ acc, H4 D = some (HO.lst acc) ∧ acc.length < sizeLine ∧ Inv' (i + 1) (upd H4 D (HO.lst (acc ++ [y])))) else Inv' (i + 1) H')
    rw [if_pos rfl]
    refine ⟨ρ', π2, D :: O, R4, mf _ _ _ _ (fun e π3 z2 v H4 s4 r4 => ?_) z'⟩
    have nDp : ∀ a l, π2 = some (a, l) → D ≠ a := fun a l e z3 => by
      have h1 := (R1.step sD).pu a l e
      exact R1.fresh hD (z3 ▸ h1.1)
    have hD4 : H4 D = some (.lst acc) := s4.keep D _ (ex2 D _ hDc) nDp
    have s5 : Stp π1 π3 H1 H4 := (sD.trans (R2.ex_stp ex2)).trans s4
    have ex4 : Ex (hide (D :: O) H4) (hide (D :: O) (upd H4 D (.lst (acc ++ [v])))) := fun b o hb => by
      obtain ⟨g1, g2⟩ := hide_some hb
      have ne : b ≠ D := fun e => g1 (e ▸ List.mem_cons_self)
      rw [hide_out g1, upd_ne ne]; exact g2
    refine ⟨acc, hD4, big_lt (by rw [rD.length]; exact hlen), acc ++ [v], accD ++ [e], π3, upd_same, ?_, ?_, z2⟩
    · exact ((rD.mono ((hide_mono ex2).trans (R4.hide_stp s4))).append (.cons r4 .nil)).mono ex4
    · constructor
      · intro b o hb hn
        rw [upd_ne (ne_of_none hb hD)]
        exact s5.keep b o hb hn
      · intro a l e
        obtain ⟨l', e1, e2⟩ := s5.pu a l e
        refine ⟨l', e1, ?_⟩
        have ne : a ≠ D := ne_of_none (R1.pu a l e).2.1 hD
        rw [upd_ne ne]; exact e2
      · exact s5.no
  · have ei : i = ds.length := by omega
    subst ei
    refine .inl ⟨w1.stops (D :: O) Hc ex1, ?_⟩
    rw [List.drop_length] at z
    exact z D acc Hc (s1.trans sD) hD0 hDc rD
theorem dl_lc {scope : Scope} {own : List (Str × Nat)} (hc : X.calm = true) (hN : X.N.Nodup) (hi : DI X C tg iter wi) (ok : BlkOk X.N X.env.scope scope own) (hT : ∀ i ∈ T.slots, i ∈ own.map (·.2))
    (hg : ∀ (s : Shared) (H : Hp) (C' : Addr) (cl : List (Str × Addr)) (fp : List Addr), DG (X.blk s H scope (compEnvC scope cl C' X.env) fp) tg T)
    (he : ∀ (s : Shared) (H : Hp) (C' : Addr) (cl : List (Str × Addr)) (fp : List Addr), DE (X.blk s H scope (compEnvC scope cl C' X.env) fp) C elt f) (hs : ∀ x, foldedSetIterable iter X.env x = pure x := by intro _; rfl) :
    DL X C (.ListComp elt [⟨tg, iter, [], 0⟩] scope pos) (dLc wi T f (own.map (·.2))) where
  pe := fun F => pe_weak (pe_lc (te := tE X.K C F f) (g := tgR X.K T) hc hN (hi.pi F) ok (fun s H C' cl fp => (hg s H C' cl fp).pg) (fun _ _ _ _ _ => pts_nil) (fun s H C' cl fp => (he s H C' cl fp).pe F) hs) fun σ H Q q =>
    lc_to hi.mono (he X.s_0 X.H_0 0 [] []).mono hT q
  mono := fun ρ π Q Q' q h => hi.mono _ _ _ _ (fun ds π1 h1 => lcD_mono (he X.s_0 X.H_0 0 [] []).mono q h1) h
theorem dl_lst (h : DA X C es fa) : DL X C (.List es pos) (fun ρ π Q => fa ρ π fun ds π1 => ds.length ≤ 100 ∧ Q ds π1) where
  pe := fun F => pe_weak (pe_lst (h.pa F)) fun σ H Q ⟨ρ, π, O, R, q⟩ =>
    ⟨ρ, π, O, R, h.mono _ _ _ _ (fun ds π1 q1 vs H1 s1 r1 => ⟨big_line (by rw [r1.length]; have := q1.1; omega), fun p hp => by
      have R1 := R.step s1
      have hD0 : H p = none := by
        cases z : H p with
        | none => rfl
        | some o =>
          cases hπ : π with
          | none =>
            have := s1.keep p o z (fun a l e => by rw [hπ] at e; cases e)
            rw [hp] at this; cases this
          | some al =>
            obtain ⟨a, l⟩ := al
            by_cases e : p = a
            · obtain ⟨l', _, e2⟩ := s1.pu a l hπ
              rw [← e, hp] at e2; cases e2
            · have := s1.keep p o z (fun a' l' e' => by rw [hπ] at e'; cases e'; exact e)
              rw [hp] at this; cases this
      refine q1.2 p vs _ (s1.trans (R1.ex_stp (Ex.new hp))) hD0 upd_same (r1.mono fun b o hb => ?_)
      obtain ⟨g1, g2⟩ := hide_some hb
      have ne : b ≠ p := ne_of_none g2 hp
      rw [hide_out (by simp only [List.mem_cons, not_or]; exact ⟨ne, g1⟩), upd_ne ne]
      exact g2⟩) q⟩
  mono := fun ρ π Q Q' q hh => h.mono _ _ _ _ (fun ds π1 h1 => ⟨h1.1, q _ _ h1.2⟩) hh
/-- a new list as data -/
theorem DL.de (h : DL X C e fa) : DE X C e (dAsL fa) where
  pe := fun F => pe_weak (h.pe F) fun σ H Q ⟨ρ, π, O, R, q⟩ => ⟨ρ, π, O, R, h.mono _ _ _ _ (fun ds π1 q1 p vs H' s hp h' r => by
    have np : p ∉ O := R.fresh hp
    exact q1 (.ref p) H' s (.lst (by rw [hide_out np]; exact h') (r.mono (hide_sub fun a ha => List.mem_cons_of_mem _ ha)))) q⟩
  mono := fun ρ π Q Q' q hh => h.mono _ _ _ _ (fun ds π1 h1 => q _ _ h1) hh
end
end Kp
set_option maxRecDepth 100000
set_option maxHeartbeats 2000000
/-! Dl7: statements and defs, over data -/
namespace Kp
open PySem PySem.Spec L2

section
variable {K : PySem.W.Frag} {C : Addr} {F : Fr} {O O1 : List Addr} {H H1 : Hp} {A : Ends}
theorem ends_le (e : Ex (hide O H) (hide O1 H1)) : (dEnds K C F O H A).le (dEnds K C F O1 H1 A) :=
  ⟨fun ρ π h σ' H' O' e' r => h σ' H' O' (e.trans e') r, fun d π h v H' O' σ' ρ' e' r => h v H' O' σ' ρ' (e.trans e') r, fun ρ π h σ' H' O' e' r => h σ' H' O' (e.trans e') r, fun ρ π h σ' H' O' e' r => h σ' H' O' (e.trans e') r⟩
end
section
variable {X : Cx} {C : Addr} {st : Stmt} {sts a b : List Stmt} {g h : DTs} {e c tg iter : Expr} {f : DTe} {fa : DTa} {t : DTt} {pos : Pos}
/-! ### blocks -/
@[simp] def dNext : DTs := fun A ρ π => A.nx ρ π
@[simp] def dSeq (g h : DTs) : DTs := fun A ρ π => g { A with nx := h A } ρ π
theorem dss_nil : DSs X C [] dNext where
  ps := fun F => pss_weak pss_nil fun A σ H ⟨ρ, π, O, R, q⟩ => q σ H O (Ex.refl _) R
  mono := fun A B l ρ π q => l.nx _ _ q
theorem seq_le {A B : DEnds} (m : ∀ A B : DEnds, A.le B → ∀ ρ π, h A ρ π → h B ρ π) (l : A.le B) : ({ A with nx := h A } : DEnds).le { B with nx := h B } := ⟨fun ρ π q => m A B l ρ π q, l.rt, l.bk, l.ct⟩
theorem dss_cons (h1 : DS X C st g) (h2 : DSs X C sts h) : DSs X C (st :: sts) (dSeq g h) where
  ps := fun F => pss_weak (pss_cons (h1.ps F) (h2.ps F)) fun A σ H ⟨ρ, π, O, R, q⟩ => ⟨ρ, π, O, R, h1.mono { dEnds X.K C F O H A with nx := h (dEnds X.K C F O H A) } (dEnds X.K C F O H { A with nx := tSt X.K C F h A }) ⟨fun ρ' π' q' σ' H' O' e' R' => ⟨ρ', π', O', R', h2.mono _ _ (ends_le e') _ _ q'⟩, fun _ _ q => q, fun _ _ q => q, fun _ _ q => q⟩ _ _ q⟩
  mono := fun A B l ρ π q => h1.mono _ _ (seq_le h2.mono l) _ _ q
theorem dss_one (h1 : DS X C st g) : DSs X C [st] g where
  ps := fun F => pss_one (h1.ps F)
  mono := h1.mono
/-! ### small statements -/
@[simp] def dNever : DTs := fun _ _ _ => False
theorem ds_never : DS X C st dNever := ⟨fun F => ps_weak ps_never fun A σ H ⟨ρ, π, O, R, q⟩ => q, fun _ _ _ _ _ q => q⟩
@[simp] def dRet (f : DTe) : DTs := fun A ρ π => f ρ π A.rt
theorem ds_ret (he : DE X C e f) : DS X C (.Return (some e) pos) (dRet f) where
  ps := fun F => ps_weak (ps_ret (he.pe F)) fun A σ H ⟨ρ, π, O, R, q⟩ => ⟨ρ, π, O, R, he.mono _ _ _ _ (fun d π1 q1 v H1 s1 r1 => q1 v H1 O σ ρ (R.hide_stp s1) (R.step s1) r1) q⟩
  mono := fun A B l ρ π q => he.mono _ _ _ _ (fun d π' z => l.rt _ _ z) q
@[simp] def dDrop (f : DTe) : DTs := fun A ρ π => f ρ π fun _ π1 => A.nx ρ π1
theorem ds_expr (he : DE X C e f) (hs : swapsWith e none pos.line X.env = pure false := by rfl) : DS X C (.Expr e pos) (dDrop f) where
  ps := fun F => ps_weak (ps_expr (he.pe F) hs) fun A σ H ⟨ρ, π, O, R, q⟩ => ⟨ρ, π, O, R, he.mono _ _ _ _ (fun d π1 q1 v H1 s1 r1 => q1 σ H1 O (R.hide_stp s1) (R.step s1)) q⟩
  mono := fun A B l ρ π q => he.mono _ _ _ _ (fun d π' z => l.nx _ _ z) q
@[simp] def dAsg (f : DTe) (T : Tgt) : DTs := fun A ρ π => f ρ π fun d π1 => stD T d ρ fun ρ' => A.nx ρ' π1
theorem ds_set {i : Nat} {x : Str} {pos' : Pos} (hN : X.N.Nodup) (he : DE X C e f) (hi : X.N[i]? = some x := by rfl) (hx : Loc X.env.scope x := by first | exact Or.inl rfl | exact Or.inr rfl) (hs : swapsWith e (some (.Name x pos')) pos.line X.env = pure false := by rfl)
    (hf : X.fn x = true ∨ X.env.scope.names.lookup x = some .local := by first | exact .inl rfl | exact .inr rfl) : DS X C (.Assign [.Name x pos'] e pos) (dAsg f (.one i)) where
  ps := fun F => ps_weak (ps_set (i := i) hN hi hx (he.pe F) hs hf) fun A σ H ⟨ρ, π, O, R, q⟩ => ⟨ρ, π, O, R, he.mono _ _ _ _ (fun d π1 q1 v H1 s1 r1 => q1 _ H1 O (R.hide_stp s1) ((R.step s1).set r1)) q⟩
  mono := fun A B l ρ π q => he.mono _ _ _ _ (fun d π' z => l.nx _ _ z) q
theorem ds_asg {T : Tgt} (he : DE X C e f) (hg : DG X tg T) (hs : swapsWithSole [tg] e pos.line X.env = pure false := by rfl) (hw : swappedStores [tg] e X.env = pure none := by rfl) (h1 : (assignEach [tg] X.env).map (·.2) = [assign tg X.env] := by rfl) :
    DS X C (.Assign [tg] e pos) (dAsg f T) where
  ps := fun F => ps_weak (ps_asg (he.pe F) hg.pg hs hw h1) fun A σ H ⟨ρ, π, O, R, q⟩ => ⟨ρ, π, O, R, he.mono _ _ _ _ (fun d π1 q1 v H1 s1 r1 =>
    tg_run (R.step s1) r1 q1 fun ρ' σ' z R' _ => z σ' H1 O (R.hide_stp s1) R') q⟩
  mono := fun A B l ρ π q => he.mono _ _ _ _ (fun d π' z => stD_mono (fun ρ' w => l.nx _ _ w) z) q
/-- a, b = x, y with plain local names -/
@[simp] def dPar (i j : Nat) (fa : DTa) : DTs := fun A ρ π => fa ρ π fun ds π1 => ∃ d e, ds = [d, e] ∧ A.nx ((ρ.set i (.pu d)).set j (.pu e)) π1
theorem ds_par {i j : Nat} {x y : Str} {a b : Expr} {px py pt : Pos} {kt k2 : Nat} {pt2 : Pos} (hc : X.calm = true) (hN : X.N.Nodup) (ha : DA X C [a, b] fa) (hi : X.N[i]? = some x := by rfl) (hj : X.N[j]? = some y := by rfl) (hij : i ≠ j := by decide)
    (hx : X.env.scope.names.lookup x = some .local := by rfl) (hy : X.env.scope.names.lookup y = some .local := by rfl)
    (hw : swappedStores [.Tuple [.Name x px, .Name y py] kt pt] (.Tuple [a, b] k2 pt2) X.env = pure (some [x, y]) := by rfl)
    (hs : swapsWithSole [.Tuple [.Name x px, .Name y py] kt pt] (.Tuple [a, b] k2 pt2) pos.line X.env = pure false := by rfl) :
    DS X C (.Assign [.Tuple [.Name x px, .Name y py] kt pt] (.Tuple [a, b] k2 pt2) pos) (dPar i j fa) where
  ps := fun F => ps_weak (ps_par hc hN hi hj hij hx hy (ha.pa F) hw hs) fun A σ H ⟨ρ, π, O, R, q⟩ => ⟨ρ, π, O, R, ha.mono _ _ _ _ (fun ds π1 ⟨d, e, e1, q1⟩ vs H1 s1 r1 => by
    subst e1
    obtain ⟨v, w, rfl, rv, rw'⟩ := r1.two
    exact ⟨v, w, rfl, q1 _ H1 O (R.hide_stp s1) (((R.step s1).set rv).set rw')⟩) q⟩
  mono := fun A B l ρ π q => ha.mono _ _ _ _ (fun ds π' ⟨d, e, e1, z⟩ => ⟨d, e, e1, l.nx _ _ z⟩) q
/-- name += e, on ints -/
@[simp] def dAugI (i : Nat) (op : Int → Int → Int) (f : DTe) : DTs := fun A ρ π => ∃ m, ρ[i]? = some (Sl.pu (.int m)) ∧ f ρ π fun d π1 => ∃ n, d = .int n ∧ A.nx (ρ.set i (.pu (.int (op m n)))) π1
theorem ds_aug {i : Nat} {x : Str} {op : Operator} {o : Int → Int → Int} {pos' : Pos} (hN : X.N.Nodup) (ho : PIp X op (ipI o)) (he : DE X C e f) (hi : X.N[i]? = some x := by rfl) (hx : Loc X.env.scope x := by first | exact Or.inl rfl | exact Or.inr rfl)
    (hf : X.fn x = true ∨ X.env.scope.names.lookup x = some .local := by first | exact .inl rfl | exact .inr rfl) : DS X C (.AugAssign (.Name x pos') op e pos) (dAugI i o f) where
  ps := fun F => ps_weak (ps_aug (i := i) hN hi hx (he.pe F) ho hf) fun A σ H ⟨ρ, π, O, R, m, hm, q⟩ => by
    obtain ⟨v, h1, r⟩ := R.sl i _ hm
    rw [r.int_iff] at h1
    exact ⟨_, h1, ρ, π, O, R, he.mono _ _ _ _ (fun d π1 ⟨n, e1, q1⟩ w H1 s1 r1 => by
      subst e1
      exact ⟨m, n, rfl, r1.int_iff, q1 _ H1 O (R.hide_stp s1) ((R.step s1).set (.int _))⟩) q⟩
  mono := fun A B l ρ π ⟨m, hm, q⟩ => ⟨m, hm, he.mono _ _ _ _ (fun d π' ⟨n, e, z⟩ => ⟨n, e, l.nx _ _ z⟩) q⟩
/-! ### if, while, for -/
@[simp] def dIfS (t : DTt) (g h : DTs) : DTs := fun A ρ π => t ρ π fun c π1 => if c = true then g A ρ π1 else h A ρ π1
theorem ds_if (hc : DT X C c t) (ha : DSs X C a g) (hb : DSs X C b h) : DS X C (.If c a b pos) (dIfS t g h) where
  ps := fun F => ps_weak (ps_if (hc.pt F) (ha.ps F) (hb.ps F)) fun A σ H ⟨ρ, π, O, R, q⟩ => ⟨ρ, π, O, R, hc.mono _ _ _ _ (fun c π1 q1 H1 s1 => by
    cases c with
    | true => exact ⟨ρ, π1, O, R.step s1, ha.mono _ _ (ends_le (R.hide_stp s1)) _ _ q1⟩
    | false => exact ⟨ρ, π1, O, R.step s1, hb.mono _ _ (ends_le (R.hide_stp s1)) _ _ q1⟩) q⟩
  mono := fun A B l ρ π q => hc.mono _ _ _ _ (fun c π' z => by
    cases c with
    | true => exact ha.mono _ _ l _ _ z
    | false => exact hb.mono _ _ l _ _ z) q
def whD (t : DTt) (g : DTs) (A : DEnds) : Nat → DEnv → Pu → Prop
  | 0 => fun _ _ => False
  | n + 1 => fun ρ π => t ρ π fun c π1 => if c = true then g { A with nx := whD t g A n, ct := whD t g A n, bk := A.nx } ρ π1 else A.nx ρ π1
theorem whD_mono (mt : ∀ ρ π Q Q', (∀ d π', Q d π' → Q' d π') → t ρ π Q → t ρ π Q') (mg : ∀ A B : DEnds, A.le B → ∀ ρ π, g A ρ π → g B ρ π) {A B : DEnds} (l : A.le B) : ∀ {n : Nat} {ρ : DEnv} {π : Pu}, whD t g A n ρ π → whD t g B n ρ π
  | 0, _, _, q => q.elim
  | n + 1, ρ, π, q => mt _ _ _ _ (fun c π1 z => by
    cases c with
    | true => exact mg { A with nx := whD t g A n, ct := whD t g A n, bk := A.nx } { B with nx := whD t g B n, ct := whD t g B n, bk := B.nx } ⟨fun _ _ w => whD_mono mt mg l w, l.rt, l.nx, fun _ _ w => whD_mono mt mg l w⟩ _ _ z
    | false => exact l.nx _ _ z) q
def dWhile (t : DTt) (g : DTs) : DTs := fun A ρ π => ∃ n, whD t g A n ρ π
theorem ds_while (hc : DT X C c t) (hb : DSs X C a g) (hp : PassesOwn (model X.prog X.w) X.A X.env X.xe := by exact PassesOwn.never) : DS X C (.While c a [] pos) (dWhile t g) where
  ps := fun F => ps_weak (ps_while hp (hc.pt F) (hb.ps F)) fun A σ H ⟨ρ, π, O, R, n, q⟩ => by
    refine ⟨fun m σ' H' => ∃ ρ' π' O', RS X.K C F O' H' σ' ρ' π' ∧ Ex (hide O H) (hide O' H') ∧ whD t g (dEnds X.K C F O H A) m ρ' π', ⟨n, ρ, π, O, R, Ex.refl _, q⟩, ?_⟩
    rintro m σ' H' ⟨ρ', π', O', R', ex, w⟩
    cases m with
    | zero => exact w.elim
    | succ m =>
      refine ⟨ρ', π', O', R', hc.mono _ _ _ _ (fun c π1 q1 H1 s1 => ?_) w⟩
      cases c with
      | false => exact q1 σ' H1 O' (ex.trans (R'.hide_stp s1)) (R'.step s1)
      | true =>
        refine ⟨fun σ2 H2 => ∃ ρ2 π2 O2, RS X.K C F O2 H2 σ2 ρ2 π2 ∧ Ex (hide O H) (hide O2 H2) ∧ whD t g (dEnds X.K C F O H A) m ρ2 π2, fun σ2 H2 z => ⟨m, Nat.lt_succ_self m, z⟩, ρ', π1, O', R'.step s1, ?_⟩
        have ex1 := ex.trans (R'.hide_stp s1)
        refine hb.mono _ _ ⟨?_, ?_, ?_, ?_⟩ _ _ q1
        · exact fun ρ2 π2 z σ2 H2 O2 e2 R2 => ⟨ρ2, π2, O2, R2, ex1.trans e2, z⟩
        · exact fun d π2 z v H2 O2 σ2 ρ2 e2 R2 r2 => z v H2 O2 σ2 ρ2 (ex1.trans e2) R2 r2
        · exact fun ρ2 π2 z σ2 H2 O2 e2 R2 => z σ2 H2 O2 (ex1.trans e2) R2
        · exact fun ρ2 π2 z σ2 H2 O2 e2 R2 => ⟨ρ2, π2, O2, R2, ex1.trans e2, z⟩
  mono := fun A B l ρ π ⟨n, q⟩ => ⟨n, whD_mono hc.mono hb.mono l q⟩
def foD (T : Tgt) (g : DTs) (A : DEnds) : List D → DEnv → Pu → Prop
  | [] => fun ρ π => A.nx ρ π
  | d :: r => fun ρ π => stD T d ρ fun ρ' => g { A with nx := foD T g A r, ct := foD T g A r, bk := A.nx } ρ' π
theorem foD_mono {T : Tgt} (mg : ∀ A B : DEnds, A.le B → ∀ ρ π, g A ρ π → g B ρ π) {A B : DEnds} (l : A.le B) : ∀ {ds : List D} {ρ : DEnv} {π : Pu}, foD T g A ds ρ π → foD T g B ds ρ π
  | [], _, _, q => l.nx _ _ q
  | d :: r, ρ, π, q => stD_mono (fun ρ' z => mg { A with nx := foD T g A r, ct := foD T g A r, bk := A.nx } { B with nx := foD T g B r, ct := foD T g B r, bk := B.nx } ⟨fun _ _ w => foD_mono mg l w, l.rt, l.nx, fun _ _ w => foD_mono mg l w⟩ _ _ z) q
@[simp] def dFor (wi : DTa) (T : Tgt) (g : DTs) : DTs := fun A ρ π => wi ρ π fun ds π1 => foD T g A ds ρ π1
theorem ds_for {wi : DTa} {T : Tgt} (hi : DI X C tg iter wi) (hg : DG X tg T) (hb : DSs X C a g) (hc : X.calm = true := by rfl) (hp : PassesOwn (model X.prog X.w) X.A X.env X.xe := by exact PassesOwn.never) (hs : ∀ x, foldedSetIterable iter X.env x = pure x := by intro _; rfl) :
    DS X C (.For tg iter a [] pos) (dFor wi T g) where
  ps := fun F => ps_weak (ps_for hp hc (hi.pi F) hg.pg (hb.ps F) hs) fun A σ H ⟨ρ, π, O, R, q⟩ => by
    refine ⟨ρ, π, O, R, hi.mono _ _ _ _ (fun ds π1 q1 J H1 s1 w1 => ?_) q⟩
    have R1 := R.step s1
    let Inv' : Nat → St → Hp → Prop := fun i σ' H' => ∃ ρ' π' O', RS X.K C F O' H' σ' ρ' π' ∧ Ex (hide O H1) (hide O' H') ∧ foD T g (dEnds X.K C F O H A) (ds.drop i) ρ' π'
    refine ⟨fun i m σ' H' => m = ds.length - i ∧ i ≤ ds.length ∧ Inv' i σ' H', ⟨ds.length, by simp, Nat.zero_le _, ρ, π1, O, R1, Ex.refl _, q1⟩, ?_⟩
    rintro i m σ' H' ⟨rfl, hle, ρ', π', O', R', ex, w⟩
    by_cases hlt : i < ds.length
    · refine .inr ⟨w1.goes i O' H' ex hlt, Inv' (i + 1), fun σ2 H2 n => ⟨ds.length - (i + 1), by omega, rfl, hlt, n⟩, fun x H2 y => ?_⟩
      obtain ⟨ex2, d, hd, rd⟩ := w1.yields i O' H' x H2 R'.dom ex hlt y
      have hdrop : ds.drop i = d :: ds.drop (i + 1) := by
        obtain ⟨h1, h2⟩ := List.getElem?_eq_some_iff.mp hd
        rw [List.drop_eq_getElem_cons h1, h2]
      rw [hdrop] at w
      have ex3 : Ex (hide O H1) (hide O' H2) := ex.trans (hide_mono ex2)
      have ex4 : Ex (hide O H) (hide O' H2) := (R.hide_stp s1).trans ex3
      refine tg_run (R'.grow ex2) rd w fun ρ2 σ2 z R2 _ => ⟨ρ2, π', O', R2, hb.mono _ _ ⟨?_, ?_, ?_, ?_⟩ _ _ z⟩
      · exact fun ρ3 π3 z σ3 H3 O3 e3 R3 => ⟨ρ3, π3, O3, R3, ex3.trans e3, z⟩
      · exact fun d π3 z v H3 O3 σ3 ρ3 e3 R3 r3 => z v H3 O3 σ3 ρ3 (ex4.trans e3) R3 r3
      · exact fun ρ3 π3 z σ3 H3 O3 e3 R3 => z σ3 H3 O3 (ex4.trans e3) R3
      · exact fun ρ3 π3 z σ3 H3 O3 e3 R3 => ⟨ρ3, π3, O3, R3, ex3.trans e3, z⟩
    · have ei : i = ds.length := by omega
      subst ei
      refine .inl ⟨w1.stops O' H' ex, ?_⟩
      rw [List.drop_length] at w
      exact w σ' H' O' ((R.hide_stp s1).trans ex) R'
  mono := fun A B l ρ π q => hi.mono _ _ _ _ (fun ds π1 z => foD_mono hb.mono l z) q

/-! ### lists of a slot's own -/
@[simp] def dOwnL (fa : DTa) (i : Nat) : DTs := fun A ρ π => fa ρ π fun ds π1 => A.nx (ρ.set i (.ow ds)) π1
theorem ds_own {i : Nat} {x : Str} {pos' : Pos} (hN : X.N.Nodup) (he : DL X C e fa) (hi : X.N[i]? = some x := by rfl) (hx : Loc X.env.scope x := by first | exact Or.inl rfl | exact Or.inr rfl) (hs : swapsWith e (some (.Name x pos')) pos.line X.env = pure false := by rfl)
    (hf : X.fn x = true ∨ X.env.scope.names.lookup x = some .local := by first | exact .inl rfl | exact .inr rfl) : DS X C (.Assign [.Name x pos'] e pos) (dOwnL fa i) where
  ps := fun F => ps_weak (ps_set (i := i) hN hi hx (he.pe F) hs hf) fun A σ H ⟨ρ, π, O, R, q⟩ => ⟨ρ, π, O, R, he.mono _ _ _ _ (fun ds π1 q1 p vs H1 s1 hp h1 r1 => by
    obtain ⟨ex, R'⟩ := R.own (i := i) s1 hp (R.nopu hp) h1 r1
    exact q1 _ H1 (p :: O) ex R') q⟩
  mono := fun A B l ρ π q => he.mono _ _ _ _ (fun d π' z => l.nx _ _ z) q
/-- x = [..] of a comprehension, stored within its frame (one line, x a local) -/
@[simp] def dSetL (fa : DTa) (i : Nat) : DTs := fun A ρ π => fa ρ π fun ds π1 => A.nx (ρ.set i (.pu (.lst ds))) π1
theorem ds_setLc {i : Nat} {y : Str} {py spos : Pos} {elt : Expr} {scope : Scope} {own : List (Str × Nat)} {wi : DTa} {T : Tgt} (hc : X.calm = true) (hN : X.N.Nodup) (hi : DI X C tg iter wi) (ok : BlkOk X.N X.env.scope scope own) (hT : ∀ i ∈ T.slots, i ∈ own.map (·.2))
    (hg : ∀ (s : Shared) (H : Hp) (C' : Addr) (cl : List (Str × Addr)) (fp : List Addr), DG (X.blk s H scope (compEnvC scope cl C' X.env) fp) tg T)
    (he : ∀ (s : Shared) (H : Hp) (C' : Addr) (cl : List (Str × Addr)) (fp : List Addr), DE (X.blk s H scope (compEnvC scope cl C' X.env) fp) C elt f)
    (hsw : swapsWith (.ListComp elt [⟨tg, iter, [], 0⟩] scope pos) (some (.Name y py)) spos.line X.env = pure true) (hy : X.N[i]? = some y := by rfl) (hyl : X.env.scope.names.lookup y = some .local := by rfl) (hs : ∀ x, foldedSetIterable iter X.env x = pure x := by intro _; rfl) :
    DS X C (.Assign [.Name y py] (.ListComp elt [⟨tg, iter, [], 0⟩] scope pos) spos) (dSetL (dLc wi T f (own.map (·.2))) i) where
  ps := fun F => ps_weak (ps_setLc (te := tE X.K C F f) (g := tgR X.K T) hc hN hy hyl hsw (hi.pi F) ok (fun s H C' cl fp => (hg s H C' cl fp).pg) (fun _ _ _ _ _ => pts_nil) (fun s H C' cl fp => (he s H C' cl fp).pe F) hs) fun A σ H ⟨ρ, π, O, R, q⟩ => by
    refine lc_to (C := C) (F := F) hi.mono (he X.s_0 X.H_0 0 [] []).mono hT ?_
    refine ⟨ρ, π, O, R, hi.mono _ _ _ _ (fun ds π1 h1 => lcD_mono (he X.s_0 X.H_0 0 [] []).mono (fun es π2 h2 p vs H1 s1 hp h1 r1 => ?_) h1) q⟩
    have np : p ∉ O := R.fresh hp
    exact h2 _ H1 O (R.hide_stp s1) ((R.step s1).set (.lst (by rw [hide_out np]; exact h1) (r1.mono (hide_sub fun a ha => List.mem_cons_of_mem _ ha))))
  mono := fun A B l ρ π q => hi.mono _ _ _ _ (fun ds π1 h1 => lcD_mono (he X.s_0 X.H_0 0 [] []).mono (fun es π2 z => l.nx _ _ z) h1) q
@[simp] def dApp (f : DTe) (i : Nat) : DTs := fun A ρ π => ∃ ds, ρ[i]? = some (Sl.ow ds) ∧ ds.length < 1000000 ∧ f ρ π fun d π1 => A.nx (ρ.set i (.ow (ds ++ [d]))) π1
theorem ow_ty {K : PySem.W.Frag} {H : Hp} {p : Addr} {vs : List V} (h : H p = some (.lst vs)) : tyV K "list" (.ref p) H := Or.inl ⟨rfl, _, SqL.of h⟩
theorem ds_append (i : Nat) {x : Str} {p1 p2 p3 : Pos} (he : DE X C e f) (hN : X.N[i]? = some x := by rfl) (hv : Vis X.env.scope x := by first | exact Or.inl rfl | exact Or.inr (Or.inl rfl) | exact Or.inr (Or.inr rfl)) (hd : (x == ("__debug__" : Str)) = false := by decide)
    (hcd : (x == ("__classdict__" : Str)) = false := by decide) (hbase : attributeBase (.Name x p1) "append" X.env (eval (.Name x p1) X.env) = eval (.Name x p1) X.env := by rfl)
    (hfew : ((backTo p3 (starEach [e] X.env)).all (fun x => !x.1) && (backToKw p3 (keywordEach [] X.env)).all (fun x => x.1.isSome) && decide (([e] : List Expr).length + ([] : List Keyword).length + (if ([] : List Keyword).isEmpty then 0 else 1) < 30)) = true := by rfl)
    (hline : (p2.endLine == p3.line) = true := by rfl) (hse : starEach [e] X.env = (false, eval e X.env) :: starEach [] X.env := by rfl) (hpl : (backTo p3 (starEach [] X.env)).any (·.1) = false := by rfl)
    (hs : swapsWith (.Call (.Attribute (.Name x p1) "append" p2) [e] [] p3) none pos.line X.env = pure false := by rfl) :
    DS X C (.Expr (.Call (.Attribute (.Name x p1) "append" p2) [e] [] p3) pos) (dApp f i) where
  ps := fun F => ps_weak (ps_expr (pe_bm PySem.F.plainAttrs_list PySem.F.slot_list_append PySem.F.type_list_append mt_append (pe_var hN hv hd hcd) (pa_cons (he.pe F) pa_nil hse) hbase hfew hline hse hpl) hs) fun A σ H ⟨ρ, π, O, R, ds, h1, h2, q⟩ => by
    obtain ⟨p, vs, g1, g2, g3, g4, g5, g6⟩ := R.ow i ds h1
    refine ⟨_, g1, ow_ty g4, ρ, π, O, R, he.mono _ _ _ _ (fun d π1 q1 v H1 s1 r1 => ?_) q⟩
    have R1 := R.step s1
    have g4' := s1.keep p _ g4 g6
    refine ⟨p, vs, v, rfl, rfl, g4', big_lt (by rw [g5.length]; exact h2), ?_⟩
    obtain ⟨ex, R2⟩ := R1.mut h1 g1 ((g5.mono (R.hide_stp s1)).append (.cons r1 .nil))
    exact q1 σ _ O ((R.hide_stp s1).trans ex) R2
  mono := fun A B l ρ π ⟨ds, h1, h2, q⟩ => ⟨ds, h1, h2, he.mono _ _ _ _ (fun d π' z => l.nx _ _ z) q⟩
@[simp] def dExt (f : DTe) (i : Nat) : DTs := fun A ρ π => ∃ ds, ρ[i]? = some (Sl.ow ds) ∧ f ρ π fun d π1 => ∃ es, d = .lst es ∧ ds.length + es.length ≤ 1000000 ∧ A.nx (ρ.set i (.ow (ds ++ es))) π1
theorem ds_extend (i : Nat) {x : Str} {p1 p2 p3 : Pos} (he : DE X C e f) (hN : X.N[i]? = some x := by rfl) (hv : Vis X.env.scope x := by first | exact Or.inl rfl | exact Or.inr (Or.inl rfl) | exact Or.inr (Or.inr rfl)) (hd : (x == ("__debug__" : Str)) = false := by decide)
    (hcd : (x == ("__classdict__" : Str)) = false := by decide) (hbase : attributeBase (.Name x p1) "extend" X.env (eval (.Name x p1) X.env) = eval (.Name x p1) X.env := by rfl)
    (hfew : ((backTo p3 (starEach [e] X.env)).all (fun x => !x.1) && (backToKw p3 (keywordEach [] X.env)).all (fun x => x.1.isSome) && decide (([e] : List Expr).length + ([] : List Keyword).length + (if ([] : List Keyword).isEmpty then 0 else 1) < 30)) = true := by rfl)
    (hline : (p2.endLine == p3.line) = true := by rfl) (hse : starEach [e] X.env = (false, eval e X.env) :: starEach [] X.env := by rfl) (hpl : (backTo p3 (starEach [] X.env)).any (·.1) = false := by rfl)
    (hs : swapsWith (.Call (.Attribute (.Name x p1) "extend" p2) [e] [] p3) none pos.line X.env = pure false := by rfl) :
    DS X C (.Expr (.Call (.Attribute (.Name x p1) "extend" p2) [e] [] p3) pos) (dExt f i) where
  ps := fun F => ps_weak (ps_expr (pe_bm PySem.F.plainAttrs_list PySem.F.slot_list_extend PySem.F.type_list_extend mt_extend (pe_var hN hv hd hcd) (pa_cons (he.pe F) pa_nil hse) hbase hfew hline hse hpl) hs) fun A σ H ⟨ρ, π, O, R, ds, h1, q⟩ => by
    obtain ⟨p, vs, g1, g2, g3, g4, g5, g6⟩ := R.ow i ds h1
    refine ⟨_, g1, ow_ty g4, ρ, π, O, R, he.mono _ _ _ _ (fun d π1 ⟨es, e1, hl, q1⟩ v H1 s1 r1 => ?_) q⟩
    subst e1
    obtain ⟨b, ws, rfl, hb, rb⟩ := r1.lst_iff
    have R1 := R.step s1
    have g4' := s1.keep p _ g4 g6
    refine ⟨p, b, vs, ws, rfl, rfl, g4', hide_ex _ _ hb, big_line (by rw [g5.length, rb.length]; exact hl), ?_⟩
    obtain ⟨ex, R2⟩ := R1.mut h1 g1 ((g5.mono (R.hide_stp s1)).append rb)
    exact q1 σ _ O ((R.hide_stp s1).trans ex) R2
  mono := fun A B l ρ π ⟨ds, h1, q⟩ => ⟨ds, h1, he.mono _ _ _ _ (fun d π' ⟨es, e, hl, z⟩ => ⟨es, e, hl, l.nx _ _ z⟩) q⟩
/-- x.insert(0, e) -/
@[simp] def dIns0 (f : DTe) (i : Nat) : DTs := fun A ρ π => ∃ ds, ρ[i]? = some (Sl.ow ds) ∧ ds.length < 1000000 ∧ f ρ π fun d π1 => A.nx (ρ.set i (.ow (d :: ds))) π1
/-- the length of a slot's own list -/
@[simp] def dLenO (i : Nat) : DTe := fun ρ π Q => ∃ ds, ρ[i]? = some (Sl.ow ds) ∧ ds.length ≤ 1000000 ∧ Q (.int (ds.length : Nat)) π
theorem de_lenO (i : Nat) {x y : Str} {p1 p2 : Pos} (hm : X.mg y = none) (hv2 : bootBuiltins y = some (.builtin "len")) (hg : Gl X y := by rfl) (hN : X.N[i]? = some x := by rfl) (hv : Vis X.env.scope x := by first | exact Or.inl rfl | exact Or.inr (Or.inl rfl) | exact Or.inr (Or.inr rfl)) (hd : (x == ("__debug__" : Str)) = false := by decide)
    (hcd : (x == ("__classdict__" : Str)) = false := by decide) (hn : y ≠ "__name__" := by decide) (hdb : (y == ("__debug__" : Str)) = false := by decide) (he : starEach [.Name x p1] X.env = (false, eval (.Name x p1) X.env) :: starEach [] X.env := by rfl) (hpl : (backTo pos (starEach [] X.env)).any (·.1) = false := by rfl) :
    DE X C (.Call (.Name y p2) [.Name x p1] [] pos) (dLenO i) where
  pe := fun F => pe_weak (pe_callB call_len hg hm hv2 (pa_cons (pe_var hN hv hd hcd) pa_nil he) hn hdb he hpl) fun σ H Q ⟨ρ, π, O, R, ds, h1, h2, q⟩ => by
    obtain ⟨p, vs, g1, g2, g3, g4, g5, g6⟩ := R.ow i ds h1
    exact ⟨_, g1, _, ds.length, rfl, .inl ⟨vs, SqL.of g4, by rw [g5.length]⟩, q _ H (R.ex_stp (Ex.refl H)) (.int _)⟩
  mono := fun ρ π Q Q' q ⟨ds, h1, h2, z⟩ => ⟨ds, h1, h2, q _ _ z⟩
/-- x[j] = e at a slot's own list -/
@[simp] def dSetO (f fj : DTe) (i : Nat) : DTs := fun A ρ π => f ρ π fun d π1 => ∃ ds, ρ[i]? = some (Sl.ow ds) ∧ fj ρ π1 fun j π2 => ∃ n m, j = .int n ∧ ixN ds.length n = some m ∧ A.nx (ρ.set i (.ow (ds.set m d))) π2
theorem ds_setO (i : Nat) {x : Str} {ej : Expr} {fj : DTe} {p1 p2 : Pos} (he : DE X C e f) (hj : DE X C ej fj) (hN : X.N[i]? = some x := by rfl) (hv : Vis X.env.scope x := by first | exact Or.inl rfl | exact Or.inr (Or.inl rfl) | exact Or.inr (Or.inr rfl)) (hd : (x == ("__debug__" : Str)) = false := by decide)
    (hcd : (x == ("__classdict__" : Str)) = false := by decide)
    (ha : ∀ v, assign (.Subscript (.Name x p1) ej p2) X.env v = (do
      let ov ← holding [v] (eval (.Name x p1) X.env)
      let iv ← holding [v, ov] (eval ej X.env)
      standAt p2
      holding [v, ov, iv] (setItem ov iv v)
      release [v, ov, iv] []) := by intro _; rfl)
    (hs : swapsWithSole [.Subscript (.Name x p1) ej p2] e pos.line X.env = pure false := by rfl) (hw : swappedStores [.Subscript (.Name x p1) ej p2] e X.env = pure none := by rfl) (h1 : (assignEach [.Subscript (.Name x p1) ej p2] X.env).map (·.2) = [assign (.Subscript (.Name x p1) ej p2) X.env] := by rfl) :
    DS X C (.Assign [.Subscript (.Name x p1) ej p2] e pos) (dSetO f fj i) where
  ps := fun F => ps_weak (ps_asg (he.pe F) (pg_sub (pe_var hN hv hd hcd) (hj.pe F) set_list ha) hs hw h1) fun A σ H ⟨ρ, π, O, R, q⟩ => by
    refine ⟨ρ, π, O, R, he.mono _ _ _ _ (fun d π1 ⟨ds, h1, q1⟩ v H1 s1 r1 => ?_) q⟩
    have R1 := R.step s1
    obtain ⟨p, vs, g1, g2, g3, g4, g5, g6⟩ := R1.ow i ds h1
    refine ⟨_, g1, ρ, π1, O, R1, hj.mono _ _ _ _ (fun j π2 ⟨n, m, e1, hx, q2⟩ w H2 s2 r2 => ?_) q1⟩
    subst e1
    have g4' := s2.keep p _ g4 g6
    refine ⟨p, vs, n, m, rfl, r2.int_iff, g4', by rw [g5.length]; exact hx, ?_⟩
    have R2 := R1.step s2
    obtain ⟨ex, R3⟩ := R2.mut h1 g1 ((g5.mono (R1.hide_stp s2)).set (r1.mono (R1.hide_stp s2)) m)
    exact q2 σ _ O (((R.hide_stp s1).trans (R1.hide_stp s2)).trans ex) R3
  mono := fun A B l ρ π q => he.mono _ _ _ _ (fun d π' ⟨ds, h1, z⟩ => ⟨ds, h1, hj.mono _ _ _ _ (fun j π2 ⟨n, m, e1, hx, w⟩ => ⟨n, m, e1, hx, l.nx _ _ w⟩) z⟩) q
/-- a slot's own list is data from here on -/
@[simp] def frz (i : Nat) (ρ : DEnv) : DEnv := match ρ[i]? with
  | some (.ow ds) => ρ.set i (.pu (.lst ds))
  | _ => ρ
theorem RS.frz {K : PySem.W.Frag} {F : Fr} {O : List Addr} {H : Hp} {σ : St} {ρ : DEnv} {π : Pu} (R : RS K C F O H σ ρ π) (d0 : ∀ b ∈ F.O0, ∃ o, F.H0 b = some o) (i : Nat) : ∃ O', Ex (hide O H) (hide O' H) ∧ RS K C F O' H σ (frz i ρ) π := by
  unfold Kp.frz
  split
  · rename_i ds h
    obtain ⟨p, vs, g1, g2, g3, g4, g5, g6⟩ := R.ow i ds h
    have sub : ∀ a ∈ O.filter (fun b => decide (b ≠ p)), a ∈ O := fun a ha => (List.mem_filter.mp ha).1
    have hp : p ∉ O.filter (fun b => decide (b ≠ p)) := fun z => absurd rfl (of_decide_eq_true (List.mem_filter.mp z).2)
    have ex : Ex (hide O H) (hide (O.filter (fun b => decide (b ≠ p))) H) := hide_sub sub
    refine ⟨O.filter fun b => decide (b ≠ p), ex, ?_⟩
    constructor
    · exact R.pres
    · exact fun b hb => R.dom b (sub b hb)
    · exact fun b hb => List.mem_filter.mpr ⟨R.sub b hb, decide_eq_true fun e => by
        obtain ⟨o, z⟩ := d0 b hb
        rw [e, g3] at z; cases z⟩
    · intro a l e
      obtain ⟨q1, q2, q3⟩ := R.pu a l e
      exact ⟨List.mem_filter.mpr ⟨q1, decide_eq_true (Ne.symm (g6 a l e))⟩, q2, q3⟩
    · exact R.pu0
    · intro j d q
      rcases sl_set q with ⟨e, hl, q'⟩ | ⟨e, q⟩
      · subst e
        cases q'
        exact ⟨.ref p, g1, .lst (by rw [hide_out hp]; exact g4) (g5.mono ex)⟩
      · obtain ⟨w, q1, q2⟩ := R.sl j d q
        exact ⟨w, q1, q2.mono ex⟩
    · intro j es q
      rcases sl_set q with ⟨e, hl, q'⟩ | ⟨e, q⟩
      · cases q'
      · obtain ⟨p2, ws, k1, k2, k3, k4, k5, k6⟩ := R.ow j es q
        have ne : p2 ≠ p := fun z => by
          subst z
          exact R.dis i j p2 ds es e h q g1 k1
        exact ⟨p2, ws, k1, List.mem_filter.mpr ⟨k2, decide_eq_true ne⟩, k3, k4, k5.mono ex, k6⟩
    · intro j k q' ds' es hne q1 q2 q3
      rcases sl_set q1 with ⟨e, hl, z⟩ | ⟨e, z⟩
      · cases z
      · rcases sl_set q2 with ⟨e', hl', z'⟩ | ⟨e', z'⟩
        · cases z'
        · exact R.dis j k q' ds' es hne z z' q3
    · rw [List.length_set]; exact R.len
  · exact ⟨O, Ex.refl _, R⟩
theorem ds_frz (i : Nat) (h1 : DS X C st g) : DS X C st (fun A ρ π => g A (frz i ρ) π) where
  ps := fun F => ps_weak (h1.ps F) fun A σ H ⟨ρ, π, O, R, q⟩ => by
    obtain ⟨O', ex, R'⟩ := R.frz F.d0 i
    exact ⟨_, π, O', R', h1.mono _ _ (ends_le ex) _ _ q⟩
  mono := fun A B l ρ π q => h1.mono _ _ l _ _ q
theorem ds_insert0 (i : Nat) {x : Str} {p1 p2 p3 p4 : Pos} {n4 : Nat} (he : DE X C e f) (hN : X.N[i]? = some x := by rfl) (hv : Vis X.env.scope x := by first | exact Or.inl rfl | exact Or.inr (Or.inl rfl) | exact Or.inr (Or.inr rfl)) (hd : (x == ("__debug__" : Str)) = false := by decide)
    (hcd : (x == ("__classdict__" : Str)) = false := by decide) (hbase : attributeBase (.Name x p1) "insert" X.env (eval (.Name x p1) X.env) = eval (.Name x p1) X.env := by rfl)
    (hfew : ((backTo p3 (starEach [.Constant (.int 0) n4 p4, e] X.env)).all (fun x => !x.1) && (backToKw p3 (keywordEach [] X.env)).all (fun x => x.1.isSome) && decide (([.Constant (.int 0) n4 p4, e] : List Expr).length + ([] : List Keyword).length + (if ([] : List Keyword).isEmpty then 0 else 1) < 30)) = true := by rfl)
    (hline : (p2.endLine == p3.line) = true := by rfl) (hse : starEach [.Constant (.int 0) n4 p4, e] X.env = (false, eval (.Constant (.int 0) n4 p4) X.env) :: starEach [e] X.env := by rfl) (hse2 : starEach [e] X.env = (false, eval e X.env) :: starEach [] X.env := by rfl) (hpl : (backTo p3 (starEach [e] X.env)).any (·.1) = false := by rfl)
    (hs : swapsWith (.Call (.Attribute (.Name x p1) "insert" p2) [.Constant (.int 0) n4 p4, e] [] p3) none pos.line X.env = pure false := by rfl) :
    DS X C (.Expr (.Call (.Attribute (.Name x p1) "insert" p2) [.Constant (.int 0) n4 p4, e] [] p3) pos) (dIns0 f i) where
  ps := fun F => ps_weak (ps_expr (pe_bm PySem.F.plainAttrs_list PySem.F.slot_list_insert PySem.F.type_list_insert mt_insert (pe_var hN hv hd hcd) (pa_cons pe_int (pa_cons (he.pe F) pa_nil hse2) hse) hbase hfew hline hse hpl) hs) fun A σ H ⟨ρ, π, O, R, ds, h1, h2, q⟩ => by
    obtain ⟨p, vs, g1, g2, g3, g4, g5, g6⟩ := R.ow i ds h1
    refine ⟨_, g1, ow_ty g4, ρ, π, O, R, he.mono _ _ _ _ (fun d π1 q1 v H1 s1 r1 => ?_) q⟩
    have R1 := R.step s1
    have g4' := s1.keep p _ g4 g6
    refine ⟨p, vs, 0, v, rfl, rfl, g4', big_lt (by rw [g5.length]; exact h2), by decide, by decide, ?_⟩
    obtain ⟨ex, R2⟩ := R1.mut h1 g1 (Reps.cons r1 (g5.mono (R.hide_stp s1)))
    exact q1 σ _ O ((R.hide_stp s1).trans ex) R2
  mono := fun A B l ρ π ⟨ds, h1, h2, q⟩ => ⟨ds, h1, h2, he.mono _ _ _ _ (fun d π' z => l.nx _ _ z) q⟩

/-! ### the purse -/
@[simp] def dPix (i : Nat) (j : Int) : DTe := fun ρ π Q => ∃ a l z, ρ[i]? = some (Sl.pu (.adr a)) ∧ π = some (a, l) ∧ atI l j = some z ∧ Q (.int z) π
theorem de_pix (i : Nat) {x : Str} {j : Int} {p1 p2 : Pos} {n : Nat} (hN : X.N[i]? = some x := by rfl) (hv : Vis X.env.scope x := by first | exact Or.inl rfl | exact Or.inr (Or.inl rfl) | exact Or.inr (Or.inr rfl)) (hd : (x == ("__debug__" : Str)) = false := by decide)
    (hcd : (x == ("__classdict__" : Str)) = false := by decide) (hs : PlainIx (.Constant (.int j) n p2) := by exact fun _ _ => rfl) : DE X C (.Subscript (.Name x p1) (.Constant (.int j) n p2) pos) (dPix i j) where
  pe := fun F => pe_weak (pe_ix ix_list (pe_var hN hv hd hcd) pe_int hs) fun σ H Q ⟨ρ, π, O, R, a, l, z, h1, h2, h3, q⟩ => by
    obtain ⟨v, e1, r⟩ := R.sl i _ h1
    cases r
    obtain ⟨k1, k2, k3⟩ := R.pu a l h2
    exact ⟨_, e1, a, _, j, .int z, rfl, rfl, SqL.of k2, atI_ints h3, q _ H (R.ex_stp (Ex.refl H)) (.int _)⟩
  mono := fun ρ π Q Q' q ⟨a, l, z, h1, h2, h3, w⟩ => ⟨a, l, z, h1, h2, h3, q _ _ w⟩
@[simp] def dPset (f : DTe) (i : Nat) (j : Int) : DTs := fun A ρ π => f ρ π fun d π1 => ∃ a l z m, ρ[i]? = some (Sl.pu (.adr a)) ∧ π1 = some (a, l) ∧ d = .int z ∧ ixN l.length j = some m ∧ A.nx ρ (some (a, l.set m z))
theorem ds_pset (i : Nat) {x : Str} {j : Int} {p1 p2 p3 : Pos} {n : Nat} (he : DE X C e f) (hN : X.N[i]? = some x := by rfl) (hv : Vis X.env.scope x := by first | exact Or.inl rfl | exact Or.inr (Or.inl rfl) | exact Or.inr (Or.inr rfl)) (hd : (x == ("__debug__" : Str)) = false := by decide)
    (hcd : (x == ("__classdict__" : Str)) = false := by decide)
    (ha : ∀ v, assign (.Subscript (.Name x p1) (.Constant (.int j) n p3) p2) X.env v = (do
      let ov ← holding [v] (eval (.Name x p1) X.env)
      let iv ← holding [v, ov] (eval (.Constant (.int j) n p3) X.env)
      standAt p2
      holding [v, ov, iv] (setItem ov iv v)
      release [v, ov, iv] []) := by intro _; rfl)
    (hs : swapsWithSole [.Subscript (.Name x p1) (.Constant (.int j) n p3) p2] e pos.line X.env = pure false := by rfl) (hw : swappedStores [.Subscript (.Name x p1) (.Constant (.int j) n p3) p2] e X.env = pure none := by rfl)
    (h1 : (assignEach [.Subscript (.Name x p1) (.Constant (.int j) n p3) p2] X.env).map (·.2) = [assign (.Subscript (.Name x p1) (.Constant (.int j) n p3) p2) X.env] := by rfl) :
    DS X C (.Assign [.Subscript (.Name x p1) (.Constant (.int j) n p3) p2] e pos) (dPset f i j) where
  ps := fun F => ps_weak (ps_asg (he.pe F) (pg_sub (pe_var hN hv hd hcd) pe_int set_list ha) hs hw h1) fun A σ H ⟨ρ, π, O, R, q⟩ => by
    refine ⟨ρ, π, O, R, he.mono _ _ _ _ (fun d π1 ⟨a, l, z, m, h1, h2, h3, h4, q1⟩ v H1 s1 r1 => ?_) q⟩
    subst h3
    rw [r1.int_iff]
    have R1 := R.step s1
    obtain ⟨w, e1, r⟩ := R1.sl i _ h1
    cases r
    obtain ⟨k1, k2, k3⟩ := R1.pu a l h2
    refine ⟨_, e1, a, _, j, m, rfl, rfl, k2, by rw [List.length_map]; exact h4, ?_⟩
    have s2 : Stp π1 (some (a, l.set m z)) H1 (upd H1 a (.lst ((l.map V.int).set m (.int z)))) := by
      constructor
      · intro b o hb hn
        rw [upd_ne (hn a l h2)]; exact hb
      · intro a' l' e'
        rw [h2] at e'
        cases e'
        exact ⟨_, rfl, by rw [upd_same, List.map_set]⟩
      · intro e'; rw [h2] at e'; cases e'
    exact q1 σ _ O ((R.hide_stp s1).trans (R1.hide_stp s2)) (R1.step s2)
  mono := fun A B l ρ π q => he.mono _ _ _ _ (fun d π' ⟨a, l', z, m, h1, h2, h3, h4, w⟩ => ⟨a, l', z, m, h1, h2, h3, h4, l.nx _ _ w⟩) q
/-- x = a new list of ints, the purse from here on -/
@[simp] def dMkP (fa : DTa) (i : Nat) : DTs := fun A ρ π => π = none ∧ fa ρ π fun ds π1 => π1 = none ∧ ∃ l : List Int, ds = l.map D.int ∧ ∀ p, A.nx (ρ.set i (.pu (.adr p))) (some (p, l))
theorem reps_ints {K : PySem.W.Frag} {H : Hp} : ∀ {vs : List V} {zs : List Int}, Reps K C H vs (zs.map D.int) → vs = zs.map V.int
  | _, [], h => by cases h; rfl
  | _, z :: zs, h => by
    cases h with
    | cons h r => rw [h.int_iff, reps_ints r] <;> rfl
theorem ds_mkP {i : Nat} {x : Str} {pos' : Pos} (hN : X.N.Nodup) (he : DL X C e fa) (hi : X.N[i]? = some x := by rfl) (hx : Loc X.env.scope x := by first | exact Or.inl rfl | exact Or.inr rfl) (hs : swapsWith e (some (.Name x pos')) pos.line X.env = pure false := by rfl)
    (hf : X.fn x = true ∨ X.env.scope.names.lookup x = some .local := by first | exact .inl rfl | exact .inr rfl) : DS X C (.Assign [.Name x pos'] e pos) (dMkP fa i) where
  ps := fun F => ps_weak (ps_set (i := i) hN hi hx (he.pe F) hs hf) fun A σ H ⟨ρ, π, O, R, hπ, q⟩ => ⟨ρ, π, O, R, he.mono _ _ _ _ (fun ds π1 ⟨hπ1, l, el, q1⟩ p vs H1 s1 hp h1 r1 => by
    subst el
    have ev := reps_ints r1
    subst ev
    have h0 : F.pa = none := by
      cases z : F.pa with
      | none => rfl
      | some a =>
        obtain ⟨l', e'⟩ := R.pu0 a z
        rw [hπ] at e'; cases e'
    obtain ⟨ex, R'⟩ := R.addO s1 hp h1 r1
    have R2 := R'.set (i := i) (.adr p : Rep X.K C (hide (p :: O) H1) (.ref p) (.adr p))
    refine q1 p _ H1 (p :: O) ex ?_
    constructor
    · exact R2.pres
    · exact R2.dom
    · exact R2.sub
    · intro a l' e'
      cases e'
      exact ⟨List.mem_cons_self, h1, .inl (R.nopu hp)⟩
    · intro a e'; rw [h0] at e'; cases e'
    · exact R2.sl
    · intro j es h
      obtain ⟨p2, ws, k1, k2, k3, k4, k5, k6⟩ := R2.ow j es h
      refine ⟨p2, ws, k1, k2, k3, k4, k5, fun a l' e' => ?_⟩
      cases e'
      rintro rfl
      rcases sl_set h with ⟨e, hl, q'⟩ | ⟨e, q'⟩
      · cases q'
      · rw [List.getElem?_set_ne e] at k1
        obtain ⟨p3, ws3, m1, m2, m3, m4, _⟩ := R.ow j es q'
        rw [k1] at m1
        cases m1
        rw [hp] at m4; cases m4
    · exact R2.dis
    · exact R2.len) q⟩
  mono := fun A B l ρ π ⟨hπ, q⟩ => ⟨hπ, he.mono _ _ _ _ (fun d π' ⟨h1, l', e, z⟩ => ⟨h1, l', e, fun p => l.nx _ _ (z p)⟩) q⟩

/-! ### defs -/
def puA : Pu → Option Addr
  | none => none
  | some p => some p.1
def fixP (π π' : Pu) : Pu := match π with
  | none => none
  | some _ => π'
theorem fixP_self (π : Pu) : fixP π π = π := by cases π <;> rfl
/-- the slots at a def's entry -/
@[simp] def d0 (n : Nat) (ds : List D) : DEnv := ds.map Sl.pu ++ List.replicate (n - ds.length) Sl.no
theorem rs_start {K : PySem.W.Frag} {N : List Str} {H : Hp} {O : List Addr} {π : Pu} {vs : List V} {ds : List D} (dm : Dm O H) (pa : PuAt O H π) (r : Reps K C (hide O H) vs ds) (hl : ds.length ≤ N.length) :
    RS K C ⟨H, O, puA π, dm⟩ O H (L2.start N vs) (d0 N.length ds) π where
  pres := fun b o h _ => h
  dom := dm
  sub := fun b h => h
  pu := fun a l h => ⟨(pa a l h).1, (pa a l h).2, .inr (by rw [h]; rfl)⟩
  pu0 := fun a h => by
    cases π with
    | none => cases h
    | some p =>
      obtain ⟨a', l⟩ := p
      cases h
      exact ⟨l, rfl⟩
  sl := fun i d h => by
    unfold d0 at h
    have hi : i < ds.length := by
      by_cases hi : i < ds.length
      · exact hi
      · rw [List.getElem?_append_right (by simpa using hi)] at h
        rw [List.getElem?_replicate] at h
        split at h <;> cases h
    rw [List.getElem?_append_left (by simpa using hi), List.getElem?_map] at h
    cases e : ds[i]? with
    | none => rw [e] at h; cases h
    | some d' =>
      rw [e] at h
      cases h
      obtain ⟨v, h1, h2⟩ := r.get e
      refine ⟨v, ?_, h2⟩
      unfold L2.start
      rw [List.getElem?_append_left (by rw [List.length_map, r.length]; exact hi), List.getElem?_map, h1]; rfl
  ow := fun i es h => by
    unfold d0 at h
    by_cases hi : i < ds.length
    · rw [List.getElem?_append_left (by simpa using hi), List.getElem?_map] at h
      cases e : ds[i]? with
      | none => rw [e] at h; cases h
      | some d' => rw [e] at h; cases h
    · rw [List.getElem?_append_right (by simpa using hi)] at h
      rw [List.getElem?_replicate] at h
      split at h <;> cases h
  dis := fun i j p es es' _ h _ _ => by
    unfold d0 at h
    by_cases hi : i < ds.length
    · rw [List.getElem?_append_left (by simpa using hi), List.getElem?_map] at h
      cases e : ds[i]? with
      | none => rw [e] at h; cases h
      | some d' => rw [e] at h; cases h
    · rw [List.getElem?_append_right (by simpa using hi)] at h
      rw [List.getElem?_replicate] at h
      split at h <;> cases h
  len := by
    unfold d0 L2.start
    have := r.length
    simp only [List.length_append, List.length_map, List.length_replicate]
    omega
end
section
variable {P : Program} {w : World} {K : PySem.W.Frag} {mg : Str → Option Value} {base : Heap} {C : Addr}
/-- THE RULE for a def: its body's derivation, and its reading over data -/
theorem fn_d {x qual : Str} {params : Arguments} {body : List Stmt} {scope : Scope} {dvs : List V} {kws : List (Str × V)} {f : Addr} {fd : FuncData} {N ps : List Str} {k : Nat} {sp : SpecD} {g : DTs} (F : FunD K x qual params body scope dvs kws f fd) (S : FnScope N ps scope)
    (hl : ∀ ds π Q, sp ds π Q → ds.length = ps.length) (hN : ps.length ≤ N.length)
    (hb : ∀ (cdv : Value) (A : Around) (outer : List Env) (s : Shared) (H : Hp) (E : XK), Room k (A.deeper (PyProof.Rows.envOfC qual scope s.heap.objs.size f cdv)) → DSs (cxOf CX0 P w K mg base N qual scope f cdv A outer s H E).nox C body g)
    (hg : ∀ ds π Q, sp ds π Q → g { nx := fun _ π' => Q .non (fixP π π'), rt := fun d π' => Q d (fixP π π') } (d0 N.length ds) π) : FnOk P w K mg base CX0 (k + 1) f fd ps (SpD K C sp) := by
  refine F.ok S (fun vs H Q E ⟨O, π, ds, dm, pa, r, h⟩ => by rw [r.length]; exact hl _ _ _ h) fun cdv A outer s H vs Q E hr ⟨O, π, ds, dm, pa, r, h⟩ => ?_
  have D := hb cdv A outer s H E hr
  refine ⟨_, (D.ps ⟨H, O, puA π, dm⟩).nox, d0 N.length ds, π, O, rs_start dm pa r (by rw [hl _ _ _ h]; exact hN), ?_⟩
  have stp : ∀ {π' : Pu} {σ' : St} {ρ' : DEnv} {H' : Hp} {O' : List Addr}, RS K C ⟨H, O, puA π, dm⟩ O' H' σ' ρ' π' → Stp π (fixP π π') H H' := fun {π' σ' ρ' H' O'} R => by
    cases π with
    | none => exact ⟨fun b o hb _ => R.pres b o hb (fun z => nomatch z), (fun a l e => nomatch e), fun _ => rfl⟩
    | some p =>
      obtain ⟨a, l⟩ := p
      refine ⟨fun b o hb hn => R.pres b o hb fun z => hn a l rfl (Option.some.inj z).symm, fun a' l' e => ?_, fun e => nomatch e⟩
      cases e
      obtain ⟨l2, e2⟩ := R.pu0 a rfl
      exact ⟨l2, e2, (R.pu a l2 e2).2.1⟩
  refine D.mono _ _ ⟨?_, ?_, ?_, ?_⟩ _ _ (hg ds π _ h)
  · exact fun ρ' π' q σ' H' O' ex R => q .non H' (stp R) .non
  · exact fun d π' q v H' O' σ' ρ' ex R rv => q v H' (stp R) (rv.mono (hide_sub R.sub))
  · exact fun ρ' π' q => q.elim
  · exact fun ρ' π' q => q.elim
end
end Kp
set_option maxRecDepth 100000
set_option maxHeartbeats 2000000
/-! Dl8: the facts behind the top, the def rule by facts -/
namespace Kp
open PySem PySem.Spec L2

structure Tx (P : Program) (w : World) (K : PySem.W.Frag) (mg : Str → Option Value) (base : Heap) : Prop where
  fa : ∀ (i : Nat) (f : He.Fa), Kp.fa[i]? = some f → f.ok K = true
  fnD : ∀ (i : Nat) (d : He.DefD), Kp.fn[i]? = some d → ∃ fd, FunD K d.name d.qual d.params d.body d.scope (d.dvs K) (d.kws K) (He.fAd K d.at_) fd
  gl : ∀ x v, PySem.W.nsIn K mainGlobals x = some (some v) → mg x = some v
  gn : ∀ x, PySem.W.nsIn K mainGlobals x = some none → mg x = none
  tabF : ∃ es n, KDict K w (He.ga K "FORMS") es n
  tabR : ∃ es n, KDict K w (He.ga K "ROWS") es n
  exx : ex K = true
abbrev GC (K : PySem.W.Frag) : Addr := He.ga K "Ground"
section
variable {P : Program} {w : World} {K : PySem.W.Frag} {mg : Str → Option Value} {base : Heap}
theorem Tx.glo (Z : Tx P w K mg base) {x : Str} (i : Nat) (h : Kp.fa[i]? = some (.glo x)) : mg x = some (.ref (He.ga K x)) := Z.gl _ _ (He.eqO_ok (Z.fa i _ h))
theorem Tx.free (Z : Tx P w K mg base) {x : Str} (i : Nat) (h : Kp.fa[i]? = some (.free x)) : mg x = none := Z.gn _ (He.eqO_ok (Z.fa i _ h))
theorem Tx.int (Z : Tx P w K mg base) {x : Str} {j : Int} (i : Nat) (h : Kp.fa[i]? = some (.int x j)) : ∃ t, mg x = some (.int j t) := by
  have c2 : (match PySem.W.nsIn K mainGlobals x with
    | some (some (.int j' _)) => decide (j' = j)
    | _ => false) = true := Z.fa i _ h
  cases e : PySem.W.nsIn K mainGlobals x with
  | none => rw [e] at c2; cases c2
  | some o =>
    rw [e] at c2
    cases o with
    | none => cases c2
    | some v =>
      cases v with
      | int j' t =>
        have ej : j' = j := of_decide_eq_true c2
        rw [ej] at e
        exact ⟨t, Z.gl _ _ e⟩
      | _ => cases c2
theorem Tx.str (Z : Tx P w K mg base) {x z : Str} (i : Nat) (h : Kp.fa[i]? = some (.str x z)) : ∃ t, mg x = some (.str z t) := by
  have c2 : (match PySem.W.nsIn K mainGlobals x with
    | some (some (.str y _)) => decide (y = z)
    | _ => false) = true := Z.fa i _ h
  cases e : PySem.W.nsIn K mainGlobals x with
  | none => rw [e] at c2; cases c2
  | some o =>
    rw [e] at c2
    cases o with
    | none => cases c2
    | some v =>
      cases v with
      | str y t =>
        have ej : y = z := of_decide_eq_true c2
        rw [ej] at e
        exact ⟨t, Z.gl _ _ e⟩
      | _ => cases c2
theorem Tx.f_isinstance (Z : Tx P w K mg base) : mg "isinstance" = none := Z.free 67 rfl
theorem Tx.f_int (Z : Tx P w K mg base) : mg "int" = none := Z.free 68 rfl
theorem Tx.f_bool (Z : Tx P w K mg base) : mg "bool" = none := Z.free 69 rfl
theorem Tx.f_str (Z : Tx P w K mg base) : mg "str" = none := Z.free 70 rfl
theorem Tx.f_tuple (Z : Tx P w K mg base) : mg "tuple" = none := Z.free 71 rfl
theorem Tx.f_list (Z : Tx P w K mg base) : mg "list" = none := Z.free 72 rfl
theorem Tx.f_len (Z : Tx P w K mg base) : mg "len" = none := Z.free 73 rfl
theorem Tx.f_all (Z : Tx P w K mg base) : mg "all" = none := Z.free 74 rfl
theorem Tx.f_zip (Z : Tx P w K mg base) : mg "zip" = none := Z.free 75 rfl
theorem Tx.f_enumerate (Z : Tx P w K mg base) : mg "enumerate" = none := Z.free 76 rfl
theorem Tx.f_range (Z : Tx P w K mg base) : mg "range" = none := Z.free 77 rfl
theorem Tx.f_dict (Z : Tx P w K mg base) : mg "dict" = none := Z.free 78 rfl
theorem Tx.f_max (Z : Tx P w K mg base) : mg "max" = none := Z.free 79 rfl
theorem Tx.f_min (Z : Tx P w K mg base) : mg "min" = none := Z.free 80 rfl
theorem Tx.f_repr (Z : Tx P w K mg base) : mg "repr" = none := Z.free 81 rfl
theorem Tx.i_MOST_KIND (Z : Tx P w K mg base) : ∃ t, mg "MOST_KIND" = some (.int 5 t) := Z.int 82 rfl
theorem Tx.i_MOST_BOUNDS (Z : Tx P w K mg base) : ∃ t, mg "MOST_BOUNDS" = some (.int 3 t) := Z.int 83 rfl
theorem Tx.i_MOST_MAKERS (Z : Tx P w K mg base) : ∃ t, mg "MOST_MAKERS" = some (.int 5 t) := Z.int 84 rfl
theorem Tx.i_MOST_ARGS (Z : Tx P w K mg base) : ∃ t, mg "MOST_ARGS" = some (.int 4 t) := Z.int 85 rfl
theorem Tx.i_MOST_ROWS (Z : Tx P w K mg base) : ∃ t, mg "MOST_ROWS" = some (.int 24 t) := Z.int 86 rfl
theorem Tx.i_MOST_STEPS (Z : Tx P w K mg base) : ∃ t, mg "MOST_STEPS" = some (.int 3000 t) := Z.int 87 rfl
theorem Tx.i_SMALL (Z : Tx P w K mg base) : ∃ t, mg "SMALL" = some (.str "abcdefghijklmnopqrstuvwxyz" t) := Z.str 88 rfl
theorem Tx.g_FORMS (Z : Tx P w K mg base) : mg "FORMS" = some (.ref (He.ga K "FORMS")) := Z.glo 61 rfl
theorem Tx.g_ROWS (Z : Tx P w K mg base) : mg "ROWS" = some (.ref (He.ga K "ROWS")) := Z.glo 62 rfl
theorem Tx.g_KEPT (Z : Tx P w K mg base) : mg "KEPT" = some (.ref (He.ga K "KEPT")) := Z.glo 63 rfl
theorem Tx.g_BINDERS (Z : Tx P w K mg base) : mg "BINDERS" = some (.ref (He.ga K "BINDERS")) := Z.glo 64 rfl
theorem Tx.g_HEADS (Z : Tx P w K mg base) : mg "HEADS" = some (.ref (He.ga K "HEADS")) := Z.glo 65 rfl
theorem Tx.g_Ground (Z : Tx P w K mg base) : mg "Ground" = some (.ref (He.ga K "Ground")) := Z.glo 66 rfl
theorem Tx.exs (Z : Tx P w K mg base) : (He.tupB K "KEPT" [.str "all", .str "fun", .str "same", .str "self", .str "put"] = true ∧ He.tupB K "BINDERS" [.str "all", .str "fun"] = true) ∧ (He.tupB K "HEADS" [.str "thing", .str "maker", .str "eater"] = true ∧
    He.valsB K (He.ga K "FORMS") formsV = true) ∧ He.valsB K (He.ga K "ROWS") rowsV = true ∧ insB K = true := by
  obtain ⟨c1, c⟩ := He.ba Z.exx
  obtain ⟨c2, c⟩ := He.ba c
  obtain ⟨c3, c⟩ := He.ba c
  obtain ⟨c4, c⟩ := He.ba c
  obtain ⟨c5, c6⟩ := He.ba c
  exact ⟨⟨c1, c2⟩, ⟨c3, c4⟩, c5, c6⟩
theorem Tx.insok (Z : Tx P w K mg base) : InsOk K (GC K) := by
  obtain ⟨c1, c⟩ := He.ba Z.exs.2.2.2
  obtain ⟨c2, c⟩ := He.ba c
  obtain ⟨c3, c⟩ := He.ba c
  obtain ⟨c4, c5⟩ := He.ba c
  exact ⟨He.cls_ok (Z.fa 89 _ rfl), of_decide_eq_true c1, of_decide_eq_true c2, of_decide_eq_true c3, of_decide_eq_true c4, of_decide_eq_true c5⟩
theorem Tx.cls (Z : Tx P w K mg base) : Cls K (GC K) := He.cls_ok (Z.fa 89 _ rfl)
theorem Tx.no_rows (Z : Tx P w K mg base) : NoAttr K (GC K) "kept_rows" := He.noat_ok (Z.fa 90 _ rfl)
theorem Tx.no_by (Z : Tx P w K mg base) : NoAttr K (GC K) "kept_by" := He.noat_ok (Z.fa 91 _ rfl)
theorem Tx.m_has (Z : Tx P w K mg base) : Meth K (GC K) "has" (He.ma K (GC K) "has") := He.meth_ok (Z.fa 92 _ rfl)
theorem Tx.m_told (Z : Tx P w K mg base) : Meth K (GC K) "told" (He.ma K (GC K) "told") := He.meth_ok (Z.fa 93 _ rfl)
theorem Tx.mkr (Z : Tx P w K mg base) : Mk K (GC K) (He.ma K (GC K) "__init__") := He.mkr_ok (Z.fa 94 _ rfl)
theorem Tx.keepG (Z : Tx P w K mg base) : PySem.W.keepIn K (.ref (GC K)) = true := He.keep_ok (Z.fa 95 _ rfl)
theorem Tx.keep1 (Z : Tx P w K mg base) : PySem.W.keepIn K (.ref (He.ga K "is_thing_row")) = true := He.keep_ok (Z.fa 96 _ rfl)
theorem Tx.keep2 (Z : Tx P w K mg base) : PySem.W.keepIn K (.ref (He.ga K "is_mean_row")) = true := He.keep_ok (Z.fa 97 _ rfl)
theorem Tx.keep3 (Z : Tx P w K mg base) : PySem.W.keepIn K (.ref (He.ga K "is_hold_row")) = true := He.keep_ok (Z.fa 98 _ rfl)

/-! ### tables, tuples -/
theorem tup_rep {x : Str} {vs : List He.Dv} {ds : List D} (h : He.tupB K x vs = true) (r : ∀ H, Reps K (GC K) H (vs.map (He.Dv.v K)) ds) (H : Hp) : Rep K (GC K) H (.ref (He.ga K x)) (.tup ds) := .tup (He.tupB_ok h H) (r H)
def keptD : List Str := ["all", "fun", "same", "self", "put"]
def bindersD : List Str := ["all", "fun"]
def headsD : List Str := ["thing", "maker", "eater"]
theorem reps_S {H : Hp} {C : Addr} : ∀ zs : List Str, Reps K C H (zs.map fun z => He.Dv.v K (.str z)) (zs.map D.str)
  | [] => .nil
  | z :: zs => .cons (.str z) (reps_S zs)
def formsD : List (Str × D) := formsV.map fun q => (q.1, match q.2 with
  | .str s => .str s
  | _ => .non)
def rowsD (K : PySem.W.Frag) : List (Str × D) := [("thing", .adr (He.ga K "is_thing_row")), ("mean", .adr (He.ga K "is_mean_row")), ("hold", .adr (He.ga K "is_hold_row"))]
theorem lookup_mem {α : Type} {s : Str} {d : α} : ∀ {l : List (Str × α)}, l.lookup s = some d → (s, d) ∈ l
  | [], h => by cases h
  | (a, b) :: l, h => by
    rw [List.lookup_cons] at h
    cases e : s == a with
    | true =>
      rw [e] at h
      have e1 : s = a := by simpa using e
      have e2 : b = d := by simpa using h
      rw [e1, e2]; exact List.mem_cons_self
    | false =>
      rw [e] at h
      exact List.mem_cons_of_mem _ (lookup_mem h)
theorem tab_get {x : Str} {vs : List (Str × He.Dv)} {s : Str} {v : He.Dv} (T : ∃ es n, KDict K w (He.ga K x) es n) (h : He.valsB K (He.ga K x) vs = true) (m : (s, v) ∈ vs) : KDct K w (He.ga K x) s (v.v K) := by
  obtain ⟨es, n, T⟩ := T
  obtain ⟨u, h1, h2⟩ := He.valsB_ok h m
  exact ⟨es, n, u, T.at_, T.lit, h1, h2⟩
theorem Tx.forms (Z : Tx P w K mg base) : ∀ s d, formsD.lookup s = some d → ∃ v, KDct K w (He.ga K "FORMS") s v ∧ ∀ H, Rep K (GC K) H v d := fun s d h => by
  have m := lookup_mem h
  obtain ⟨⟨s', v⟩, m1, m2⟩ := List.mem_map.mp m
  have t := tab_get Z.tabF Z.exs.2.1.2 m1
  simp only [Prod.mk.injEq] at m2
  obtain ⟨e1, e2⟩ := m2
  subst e1
  refine ⟨_, t, fun H => ?_⟩
  have hs : ∀ q ∈ formsV, ∃ z, q.2 = .str z := by
    intro q hq
    simp only [formsV, List.mem_cons, List.not_mem_nil, or_false] at hq
    rcases hq with e | e | e | e | e | e | e | e | e | e | e | e <;> subst e <;> exact ⟨_, rfl⟩
  obtain ⟨z, e⟩ := hs _ m1
  have e' : v = .str z := e
  subst e'
  rw [← e2]
  exact .str z
theorem Tx.rows (Z : Tx P w K mg base) : ∀ s d, (rowsD K).lookup s = some d → ∃ v, KDct K w (He.ga K "ROWS") s v ∧ ∀ H, Rep K (GC K) H v d := fun s d h => by
  have m := lookup_mem h
  simp only [rowsD, List.mem_cons, List.not_mem_nil, or_false, Prod.mk.injEq] at m
  rcases m with ⟨rfl, rfl⟩ | ⟨rfl, rfl⟩ | ⟨rfl, rfl⟩
  · exact ⟨_, tab_get (s := "thing") (v := .glo "is_thing_row") Z.tabR Z.exs.2.2.1 (by simp [rowsV]), fun H => .adr _⟩
  · exact ⟨_, tab_get (s := "mean") (v := .glo "is_mean_row") Z.tabR Z.exs.2.2.1 (by simp [rowsV]), fun H => .adr _⟩
  · exact ⟨_, tab_get (s := "hold") (v := .glo "is_hold_row") Z.tabR Z.exs.2.2.1 (by simp [rowsV]), fun H => .adr _⟩
theorem Tx.formsIn (Z : Tx P w K mg base) : ∀ s d, formsD.lookup s = some d → ∃ u, PySem.W.nsIn K (He.ga K "FORMS") s = some (some u) := fun s d h => by
  obtain ⟨v, ⟨_, _, u, _, _, h3, _⟩, _⟩ := Z.forms s d h
  exact ⟨u, h3⟩
theorem Tx.rowsIn (Z : Tx P w K mg base) : ∀ s d, (rowsD K).lookup s = some d → ∃ u, PySem.W.nsIn K (He.ga K "ROWS") s = some (some u) := fun s d h => by
  obtain ⟨v, ⟨_, _, u, _, _, h3, _⟩, _⟩ := Z.rows s d h
  exact ⟨u, h3⟩
end
section
variable {X : Cx} {pos : Pos}
theorem de_gi {x : Str} {i : Int} (hg : Gl X x) (hm : ∃ t, X.mg x = some (.int i t)) (hd : (x == ("__debug__" : Str)) = false := by decide) : DE X (GC X.K) (.Name x pos) (dC (.int i)) := by
  obtain ⟨t, h⟩ := hm
  exact de_glob (v := .int i) hg h ⟨t, rfl⟩ (fun _ => .int i) hd
theorem de_gs {x : Str} {i : Str} (hg : Gl X x) (hm : ∃ t, X.mg x = some (.str i t)) (hd : (x == ("__debug__" : Str)) = false := by decide) : DE X (GC X.K) (.Name x pos) (dC (.str i)) := by
  obtain ⟨t, h⟩ := hm
  exact de_glob (v := .str i) hg h ⟨t, rfl⟩ (fun _ => .str i) hd
theorem de_ga {C : Addr} {K : PySem.W.Frag} {x : Str} (hg : Gl X x) (hm : X.mg x = some (.ref (He.ga K x))) (hd : (x == ("__debug__" : Str)) = false := by decide) : DE X C (.Name x pos) (dC (.adr (He.ga K x))) :=
  de_glob (v := .ref (He.ga K x)) hg hm rfl (fun _ => .adr _) hd
theorem de_gt {x : Str} {vs : List He.Dv} {ds : List D} (hg : Gl X x) (hm : X.mg x = some (.ref (He.ga X.K x))) (h : He.tupB X.K x vs = true) (r : ∀ H, Reps X.K (GC X.K) H (vs.map (He.Dv.v X.K)) ds) (hd : (x == ("__debug__" : Str)) = false := by decide) : DE X (GC X.K) (.Name x pos) (dC (.tup ds)) :=
  de_glob (v := .ref (He.ga X.K x)) hg hm rfl (tup_rep h r) hd
theorem de_KEPT (Z : Tx X.prog X.w X.K X.mg X.base) (hg : Gl X "KEPT") : DE X (GC X.K) (.Name "KEPT" pos) (dC (.tup (keptD.map D.str))) := de_gt hg Z.g_KEPT Z.exs.1.1 (fun H => reps_S keptD)
theorem de_BINDERS (Z : Tx X.prog X.w X.K X.mg X.base) (hg : Gl X "BINDERS") : DE X (GC X.K) (.Name "BINDERS" pos) (dC (.tup (bindersD.map D.str))) := de_gt hg Z.g_BINDERS Z.exs.1.2 (fun H => reps_S bindersD)
theorem de_HEADS (Z : Tx X.prog X.w X.K X.mg X.base) (hg : Gl X "HEADS") : DE X (GC X.K) (.Name "HEADS" pos) (dC (.tup (headsD.map D.str))) := de_gt hg Z.g_HEADS Z.exs.2.1.1 (fun H => reps_S headsD)
theorem ix_forms {P : Program} {w : World} {K : PySem.W.Frag} {mg : Str → Option Value} {base : Heap} (Z : Tx P w K mg base) : D2 K (GC K) (rIxD K w) (kTab (He.ga K "FORMS") formsD) := d2_tab Z.forms
theorem ix_rows {P : Program} {w : World} {K : PySem.W.Frag} {mg : Str → Option Value} {base : Heap} (Z : Tx P w K mg base) : D2 K (GC K) (rIxD K w) (kTab (He.ga K "ROWS") (rowsD K)) := d2_tab Z.rows
end
/-! ### specs -/
/-- a def without a purse: its arguments, what is asked of them, its answer -/
def spF {α : Type} (args : α → List D) (pre : α → Prop) (res : α → D) : SpecD := fun ds π Q => ∃ a, ds = args a ∧ pre a ∧ Q (res a) π
theorem spF_mono {α : Type} {args : α → List D} {pre : α → Prop} {res : α → D} (ds : List D) (π : Pu) (Q Q' : D → Pu → Prop) (q : ∀ d π', Q d π' → Q' d π') (h : spF args pre res ds π Q) : spF args pre res ds π Q' := by
  obtain ⟨a, e, hp, z⟩ := h
  exact ⟨a, e, hp, q _ _ z⟩
@[simp] def eqE (d : D) (π : Pu) : DEnds := { nx := fun _ π' => d = .non ∧ π' = π, rt := fun d' π' => d' = d ∧ π' = π }
section
variable {P : Program} {w : World} {K : PySem.W.Frag} {mg : Str → Option Value} {base : Heap}
theorem fn_mk (Z : Tx P w K mg base) {x : Str} (i : Nat) {d : He.DefD} {dds : List D} {N ps : List Str} {k : Nat} {sp : SpecD} {g : DTs} (hd : fn[i]? = some d) (hx : d.at_ = (x, none)) (hgl : Kp.fa[i]? = some (.glo x)) (S : FnScope N ps d.scope) (hN : ps.length ≤ N.length)
    (hbind : ∀ fd, FunD K d.name d.qual d.params d.body d.scope (d.dvs K) (d.kws K) (He.fAd K d.at_) fd → ∃ ds dvs, Vals dvs ds ∧ Binds K fd ps ds ∧ ∀ H, Reps K (GC K) H dvs dds)
    (hl : ∀ ds π Q, sp ds π Q → ds.length = ps.length) (hm : ∀ ds π Q Q', (∀ d π', Q d π' → Q' d π') → sp ds π Q → sp ds π Q')
    (hb : ∀ (f : Addr) (cdv : Value) (A : Around) (outer : List Env) (s : Shared) (H : Hp) (E : XK), Room k (A.deeper (PyProof.Rows.envOfC d.qual d.scope s.heap.objs.size f cdv)) → DSs (cxOf CX0 P w K mg base N d.qual d.scope f cdv A outer s H E).nox (GC K) d.body g)
    (hg : ∀ ds π Q, sp ds π Q → g { nx := fun _ π' => Q .non (fixP π π'), rt := fun d π' => Q d (fixP π π') } (d0 N.length ds) π) : Fn P w K mg base (GC K) x (k + 1) dds sp where
  ex := by
    obtain ⟨fd, F⟩ := Z.fnD i d hd
    obtain ⟨ds, dvs, h1, h2, h3⟩ := hbind fd F
    have e : He.fAd K d.at_ = He.ga K x := by rw [hx]; rfl
    rw [e] at F
    exact ⟨_, fd, ps, ds, dvs, fn_d F S hl hN (hb _) hg, Z.glo i hgl, F.kp, h2, h1, h3⟩
  mono := hm
/-- no defaults -/
theorem fn_m0 (Z : Tx P w K mg base) {x : Str} (i : Nat) {d : He.DefD} {N ps : List Str} {k : Nat} {sp : SpecD} {g : DTs} (hd : fn[i]? = some d) (hx : d.at_ = (x, none)) (hgl : Kp.fa[i]? = some (.glo x)) (hdf : d.dfl = []) (S : FnScope N ps d.scope) (hN : ps.length ≤ N.length)
    (hbind : ∀ (kV doc pm : Value) (an : Option Addr) (cdv ct : Value) (us : List Value), us.length = ps.length → bindArgs (PySem.W.fnOf d.name d.qual d.params d.body d.scope .none kV doc pm an cdv ct) ⟨us, []⟩ = pure (ps.zip us))
    (hl : ∀ ds π Q, sp ds π Q → ds.length = ps.length) (hm : ∀ ds π Q Q', (∀ d π', Q d π' → Q' d π') → sp ds π Q → sp ds π Q')
    (hb : ∀ (f : Addr) (cdv : Value) (A : Around) (outer : List Env) (s : Shared) (H : Hp) (E : XK), Room k (A.deeper (PyProof.Rows.envOfC d.qual d.scope s.heap.objs.size f cdv)) → DSs (cxOf CX0 P w K mg base N d.qual d.scope f cdv A outer s H E).nox (GC K) d.body g)
    (hg : ∀ ds π Q, sp ds π Q → g { nx := fun _ π' => Q .non (fixP π π'), rt := fun d π' => Q d (fixP π π') } (d0 N.length ds) π) : Fn P w K mg base (GC K) x (k + 1) [] sp := by
  refine fn_mk Z i hd hx hgl S hN (fun fd F => ⟨[], [], .nil, ?_, fun _ => .nil⟩) hl hm hb hg
  have e : d.dvs K = [] := by unfold He.DefD.dvs; rw [hdf]; rfl
  rw [e] at F
  exact F.bindsN hbind
theorem DEnds.le.trans {A B C : DEnds} (h : A.le B) (l : B.le C) : A.le C := ⟨fun _ _ z => l.nx _ _ (h.nx _ _ z), fun _ _ z => l.rt _ _ (h.rt _ _ z), fun _ _ z => l.bk _ _ (h.bk _ _ z), fun _ _ z => l.ct _ _ (h.ct _ _ z)⟩
theorem DSs.upw {X : Cx} {C : Addr} {b : List Stmt} {g : DTs} (h : DSs X C b g) : DSs X C b (fun A ρ π => ∃ B, g B ρ π ∧ B.le A) where
  ps := fun F => pss_weak (h.ps F) fun A σ H ⟨ρ, π, O, R, B, q, l⟩ => ⟨ρ, π, O, R, h.mono _ _ l _ _ q⟩
  mono := fun A B l ρ π ⟨B', q, l'⟩ => ⟨B', q, l'.trans l⟩
/-- the same for a def without a purse -/
theorem fn_p0 (Z : Tx P w K mg base) {x : Str} (i : Nat) {d : He.DefD} {N ps : List Str} {k : Nat} {α : Type} {args : α → List D} {pre : α → Prop} {res : α → D} {g : DTs} (hd : fn[i]? = some d) (hx : d.at_ = (x, none)) (hgl : Kp.fa[i]? = some (.glo x)) (hdf : d.dfl = []) (S : FnScope N ps d.scope) (hN : ps.length ≤ N.length)
    (hbind : ∀ (kV doc pm : Value) (an : Option Addr) (cdv ct : Value) (us : List Value), us.length = ps.length → bindArgs (PySem.W.fnOf d.name d.qual d.params d.body d.scope .none kV doc pm an cdv ct) ⟨us, []⟩ = pure (ps.zip us))
    (hl : ∀ a, (args a).length = ps.length)
    (hb : ∀ (f : Addr) (cdv : Value) (A : Around) (outer : List Env) (s : Shared) (H : Hp) (E : XK), Room k (A.deeper (PyProof.Rows.envOfC d.qual d.scope s.heap.objs.size f cdv)) → DSs (cxOf CX0 P w K mg base N d.qual d.scope f cdv A outer s H E).nox (GC K) d.body g)
    (hg : ∀ a π, pre a → g (eqE (res a) π) (d0 N.length (args a)) π) : Fn P w K mg base (GC K) x (k + 1) [] (spF args pre res) := by
  refine fn_m0 Z i hd hx hgl hdf S hN hbind (fun ds π Q h => ?_) spF_mono (fun f cdv A outer s H E hr => (hb f cdv A outer s H E hr).upw) fun ds π Q h => ?_
  · obtain ⟨a, e, _⟩ := h
    rw [e]; exact hl a
  · obtain ⟨a, e, hp, q⟩ := h
    subst e
    refine ⟨_, hg a π hp, ⟨?_, ?_, ?_, ?_⟩⟩
    · rintro ρ' π' ⟨e1, e2⟩
      subst e2
      show Q .non (fixP π' π')
      rw [fixP_self, ← e1]; exact q
    · rintro d' π' ⟨e1, e2⟩
      subst e1 e2
      show Q (res a) (fixP π' π')
      rw [fixP_self]; exact q
    · exact fun _ _ z => z
    · exact fun _ _ z => z
end
end Kp
set_option maxRecDepth 100000
set_option maxHeartbeats 8000000
/-! Fin: the law holds if its def keeps its promise -/
namespace Kp
open PySem PySem.Spec L2
def sp_law : SpecD := fun ds π Q => ∃ ns : List Int, ds = [.inp ns] ∧ ns.length ≤ 1000000 ∧ π = none ∧ ∀ π', Q (.bl true) π'
/-- what is asked of the law's def -/
def Main : Prop := ∀ (P : Program) (w : World) (K : PySem.W.Frag) (mg : Str → Option Value) (base : Heap) (f : Addr) (fd : FuncData), Tx P w K mg base → FunD K d_law.name d_law.qual d_law.params d_law.body d_law.scope [] [] f fd → FnOk P w K mg base CX0 186 f fd ["_law_script"] (SpD K (GC K) sp_law)
theorem tx_of {P : Program} {w : World} {K : PySem.W.Frag} {h : Heap} {mg : Str → Option Value} (base : Heap) (X : K.In h) (G : h.Ns mainGlobals mg) (c : He.SaysX fa fn ts [] ex w h K) : Tx P w K mg base where
  fa := fun i f e => c.t.d.fact i (f := f) e
  fnD := fun i d e => c.t.d.def_ i (d := d) e
  gl := fun x v e => PySem.W.mg_of X G e
  gn := fun x e => PySem.W.mg_none_of X G e
  tabF := c.t.tab 0 (t := (fun K => He.ga K "FORMS", ["at", "kind", "all", "fun", "app", "name", "thing", "maker", "eater", "same", "self", "put"])) rfl
  tabR := c.t.tab 1 (t := (fun K => He.ga K "ROWS", ["thing", "mean", "hold"])) rfl
  exx := c.more
theorem hide_nil (H : Hp) : hide [] H = H := funext fun a => hide_out (by simp)
theorem law_sp {K : PySem.W.Frag} {C : Addr} {H : Hp} {a : Addr} {ns : List Int} (hl : ns.length ≤ 1000000) (hS : SqL K H a (ns.map V.int)) : SpD K C sp_law [.ref a] H (fun v _ => v = .bl true) fun _ _ _ => False :=
  ⟨[], none, [.inp ns], (fun _ h => nomatch h), (fun _ _ h => nomatch h), .cons (.inp (by rw [hide_nil]; exact hS)) .nil, ns, rfl, hl, rfl, fun π' v H' _ r => r.bl_iff⟩
theorem facts (main : Main) {P : Program} {w : World} {K : PySem.W.Frag} {h : Heap} {mg : Str → Option Value} {f : Addr} (X : K.In h) (G : h.Ns mainGlobals mg) (hfa : mg ("law" : Str) = some (.ref f)) (c : He.SaysX fa fn ts [] ex w h K) :
    ∃ fd : FuncData, (∀ (s : Shared) (v : Value), BindsTo s fd ⟨[v], []⟩ [("_law_script", v)]) ∧ ∀ base : Heap, K.In base → base.Ns mainGlobals mg → FnOk P w K mg base CX0 186 f fd ["_law_script"] (SpD K (GC K) sp_law) := by
  obtain ⟨fd, F⟩ := c.t.d.def_ 60 (d := d_law) rfl
  have Z0 : Tx P w K mg h := tx_of h X G c
  have e := hfa.symm.trans (Z0.glo (x := "law") 60 rfl)
  cases e
  have b := FunD.bindsA (ps := ["_law_script"]) F fun _ _ _ _ _ _ us hl => match us, hl with | [_], _ => rfl
  exact ⟨fd, fun s v => b s [v] rfl, fun base _ _ => main _ _ _ _ _ _ _ (tx_of base X G c) F⟩
end Kp
section
open PySem PySem.W PySem.Calls PyProof.Rows
set_option maxRecDepth 100000 in
set_option maxHeartbeats 8000000 in
theorem Kp.fin (main : Kp.Main) : PySem.Challenge.rw_kernelpapers_k20_whole_one_end.Holds := by
  w_on; o_law
  refine HandSHeadRun.head_any (r := Kp.R) (q := view Kp.R.prog [Kp.lawIx]) (H := Kp.hk) (ob := Kp.ob) (M := 8000) (loose := Kp.loose) (d := HandSHeadRun.topDef Kp.R.prog Kp.lawIx) (kwd := []) Kp.ob_eq
    (by kernel_rfl) (fun s => by kernel_rfl) Kp.run (by kernel_rfl) (by kernel_rfl) (by kernel_rfl) (by rfl) (by first | assumption | decide +kernel) (by decide +kernel) ⟨rfl, rfl, rfl, rfl, rfl, by decide +kernel⟩ ?hw ?hc
  case hw => w_witness2
  case hc =>
    refine L2.walk_ofE (l := PySem.Challenge.rw_kernelpapers_k20_whole_one_end) (n := 63) (k := 186) (x := "_law_script") (CX := L2.CX0) rfl (by decide) (by kernel_rfl) ⟨rfl, by decide, by decide⟩ ?F (fun _ _ _ _ z => z)
    intro w mg fa h Y G hmg0
    obtain ⟨K, KX, c⟩ := Y
    have hmg : mg ("law" : PySem.Str) = some (.ref fa) := by
      have e : (HandSHeadRun.topDef Kp.R.prog Kp.lawIx).name = ("law" : PySem.Str) := by kernel_rfl
      rw [← e]
      exact hmg0
    obtain ⟨fd, hb, hF⟩ := Kp.facts main (P := (PySem.Challenge.rw_kernelpapers_k20_whole_one_end).prog) (w := w) KX G hmg c
    exact ⟨K, fd, Kp.SpD K (Kp.GC K) Kp.sp_law, KX, hb, fun H a ns hl _ hS => Kp.law_sp (Nat.le_trans hl (by decide)) hS, hF⟩
end
set_option maxRecDepth 100000
set_option maxHeartbeats 2000000
/-! M1: words, lists by place, terms as data -/
namespace Kp
open PySem PySem.Spec L2
/-! ### words -/
@[simp] theorem w_at_kind : (("at" : Str) = "kind") = False := eq_false (by decide +kernel)
@[simp] theorem w_at_all : (("at" : Str) = "all") = False := eq_false (by decide +kernel)
@[simp] theorem w_at_fun : (("at" : Str) = "fun") = False := eq_false (by decide +kernel)
@[simp] theorem w_at_app : (("at" : Str) = "app") = False := eq_false (by decide +kernel)
@[simp] theorem w_at_name : (("at" : Str) = "name") = False := eq_false (by decide +kernel)
@[simp] theorem w_at_thing : (("at" : Str) = "thing") = False := eq_false (by decide +kernel)
@[simp] theorem w_at_maker : (("at" : Str) = "maker") = False := eq_false (by decide +kernel)
@[simp] theorem w_at_eater : (("at" : Str) = "eater") = False := eq_false (by decide +kernel)
@[simp] theorem w_at_same : (("at" : Str) = "same") = False := eq_false (by decide +kernel)
@[simp] theorem w_at_self : (("at" : Str) = "self") = False := eq_false (by decide +kernel)
@[simp] theorem w_at_put : (("at" : Str) = "put") = False := eq_false (by decide +kernel)
@[simp] theorem w_at_mean : (("at" : Str) = "mean") = False := eq_false (by decide +kernel)
@[simp] theorem w_at_hold : (("at" : Str) = "hold") = False := eq_false (by decide +kernel)
@[simp] theorem w_at_give : (("at" : Str) = "give") = False := eq_false (by decide +kernel)
@[simp] theorem w_at_eat : (("at" : Str) = "eat") = False := eq_false (by decide +kernel)
@[simp] theorem w_kind_at : (("kind" : Str) = "at") = False := eq_false (by decide +kernel)
@[simp] theorem w_kind_all : (("kind" : Str) = "all") = False := eq_false (by decide +kernel)
@[simp] theorem w_kind_fun : (("kind" : Str) = "fun") = False := eq_false (by decide +kernel)
@[simp] theorem w_kind_app : (("kind" : Str) = "app") = False := eq_false (by decide +kernel)
@[simp] theorem w_kind_name : (("kind" : Str) = "name") = False := eq_false (by decide +kernel)
@[simp] theorem w_kind_thing : (("kind" : Str) = "thing") = False := eq_false (by decide +kernel)
@[simp] theorem w_kind_maker : (("kind" : Str) = "maker") = False := eq_false (by decide +kernel)
@[simp] theorem w_kind_eater : (("kind" : Str) = "eater") = False := eq_false (by decide +kernel)
@[simp] theorem w_kind_same : (("kind" : Str) = "same") = False := eq_false (by decide +kernel)
@[simp] theorem w_kind_self : (("kind" : Str) = "self") = False := eq_false (by decide +kernel)
@[simp] theorem w_kind_put : (("kind" : Str) = "put") = False := eq_false (by decide +kernel)
@[simp] theorem w_kind_mean : (("kind" : Str) = "mean") = False := eq_false (by decide +kernel)
@[simp] theorem w_kind_hold : (("kind" : Str) = "hold") = False := eq_false (by decide +kernel)
@[simp] theorem w_kind_give : (("kind" : Str) = "give") = False := eq_false (by decide +kernel)
@[simp] theorem w_kind_eat : (("kind" : Str) = "eat") = False := eq_false (by decide +kernel)
@[simp] theorem w_all_at : (("all" : Str) = "at") = False := eq_false (by decide +kernel)
@[simp] theorem w_all_kind : (("all" : Str) = "kind") = False := eq_false (by decide +kernel)
@[simp] theorem w_all_fun : (("all" : Str) = "fun") = False := eq_false (by decide +kernel)
@[simp] theorem w_all_app : (("all" : Str) = "app") = False := eq_false (by decide +kernel)
@[simp] theorem w_all_name : (("all" : Str) = "name") = False := eq_false (by decide +kernel)
@[simp] theorem w_all_thing : (("all" : Str) = "thing") = False := eq_false (by decide +kernel)
@[simp] theorem w_all_maker : (("all" : Str) = "maker") = False := eq_false (by decide +kernel)
@[simp] theorem w_all_eater : (("all" : Str) = "eater") = False := eq_false (by decide +kernel)
@[simp] theorem w_all_same : (("all" : Str) = "same") = False := eq_false (by decide +kernel)
@[simp] theorem w_all_self : (("all" : Str) = "self") = False := eq_false (by decide +kernel)
@[simp] theorem w_all_put : (("all" : Str) = "put") = False := eq_false (by decide +kernel)
@[simp] theorem w_all_mean : (("all" : Str) = "mean") = False := eq_false (by decide +kernel)
@[simp] theorem w_all_hold : (("all" : Str) = "hold") = False := eq_false (by decide +kernel)
@[simp] theorem w_all_give : (("all" : Str) = "give") = False := eq_false (by decide +kernel)
@[simp] theorem w_all_eat : (("all" : Str) = "eat") = False := eq_false (by decide +kernel)
@[simp] theorem w_fun_at : (("fun" : Str) = "at") = False := eq_false (by decide +kernel)
@[simp] theorem w_fun_kind : (("fun" : Str) = "kind") = False := eq_false (by decide +kernel)
@[simp] theorem w_fun_all : (("fun" : Str) = "all") = False := eq_false (by decide +kernel)
@[simp] theorem w_fun_app : (("fun" : Str) = "app") = False := eq_false (by decide +kernel)
@[simp] theorem w_fun_name : (("fun" : Str) = "name") = False := eq_false (by decide +kernel)
@[simp] theorem w_fun_thing : (("fun" : Str) = "thing") = False := eq_false (by decide +kernel)
@[simp] theorem w_fun_maker : (("fun" : Str) = "maker") = False := eq_false (by decide +kernel)
@[simp] theorem w_fun_eater : (("fun" : Str) = "eater") = False := eq_false (by decide +kernel)
@[simp] theorem w_fun_same : (("fun" : Str) = "same") = False := eq_false (by decide +kernel)
@[simp] theorem w_fun_self : (("fun" : Str) = "self") = False := eq_false (by decide +kernel)
@[simp] theorem w_fun_put : (("fun" : Str) = "put") = False := eq_false (by decide +kernel)
@[simp] theorem w_fun_mean : (("fun" : Str) = "mean") = False := eq_false (by decide +kernel)
@[simp] theorem w_fun_hold : (("fun" : Str) = "hold") = False := eq_false (by decide +kernel)
@[simp] theorem w_fun_give : (("fun" : Str) = "give") = False := eq_false (by decide +kernel)
@[simp] theorem w_fun_eat : (("fun" : Str) = "eat") = False := eq_false (by decide +kernel)
@[simp] theorem w_app_at : (("app" : Str) = "at") = False := eq_false (by decide +kernel)
@[simp] theorem w_app_kind : (("app" : Str) = "kind") = False := eq_false (by decide +kernel)
@[simp] theorem w_app_all : (("app" : Str) = "all") = False := eq_false (by decide +kernel)
@[simp] theorem w_app_fun : (("app" : Str) = "fun") = False := eq_false (by decide +kernel)
@[simp] theorem w_app_name : (("app" : Str) = "name") = False := eq_false (by decide +kernel)
@[simp] theorem w_app_thing : (("app" : Str) = "thing") = False := eq_false (by decide +kernel)
@[simp] theorem w_app_maker : (("app" : Str) = "maker") = False := eq_false (by decide +kernel)
@[simp] theorem w_app_eater : (("app" : Str) = "eater") = False := eq_false (by decide +kernel)
@[simp] theorem w_app_same : (("app" : Str) = "same") = False := eq_false (by decide +kernel)
@[simp] theorem w_app_self : (("app" : Str) = "self") = False := eq_false (by decide +kernel)
@[simp] theorem w_app_put : (("app" : Str) = "put") = False := eq_false (by decide +kernel)
@[simp] theorem w_app_mean : (("app" : Str) = "mean") = False := eq_false (by decide +kernel)
@[simp] theorem w_app_hold : (("app" : Str) = "hold") = False := eq_false (by decide +kernel)
@[simp] theorem w_app_give : (("app" : Str) = "give") = False := eq_false (by decide +kernel)
@[simp] theorem w_app_eat : (("app" : Str) = "eat") = False := eq_false (by decide +kernel)
@[simp] theorem w_name_at : (("name" : Str) = "at") = False := eq_false (by decide +kernel)
@[simp] theorem w_name_kind : (("name" : Str) = "kind") = False := eq_false (by decide +kernel)
@[simp] theorem w_name_all : (("name" : Str) = "all") = False := eq_false (by decide +kernel)
@[simp] theorem w_name_fun : (("name" : Str) = "fun") = False := eq_false (by decide +kernel)
@[simp] theorem w_name_app : (("name" : Str) = "app") = False := eq_false (by decide +kernel)
@[simp] theorem w_name_thing : (("name" : Str) = "thing") = False := eq_false (by decide +kernel)
@[simp] theorem w_name_maker : (("name" : Str) = "maker") = False := eq_false (by decide +kernel)
@[simp] theorem w_name_eater : (("name" : Str) = "eater") = False := eq_false (by decide +kernel)
@[simp] theorem w_name_same : (("name" : Str) = "same") = False := eq_false (by decide +kernel)
@[simp] theorem w_name_self : (("name" : Str) = "self") = False := eq_false (by decide +kernel)
@[simp] theorem w_name_put : (("name" : Str) = "put") = False := eq_false (by decide +kernel)
@[simp] theorem w_name_mean : (("name" : Str) = "mean") = False := eq_false (by decide +kernel)
@[simp] theorem w_name_hold : (("name" : Str) = "hold") = False := eq_false (by decide +kernel)
@[simp] theorem w_name_give : (("name" : Str) = "give") = False := eq_false (by decide +kernel)
@[simp] theorem w_name_eat : (("name" : Str) = "eat") = False := eq_false (by decide +kernel)
@[simp] theorem w_thing_at : (("thing" : Str) = "at") = False := eq_false (by decide +kernel)
@[simp] theorem w_thing_kind : (("thing" : Str) = "kind") = False := eq_false (by decide +kernel)
@[simp] theorem w_thing_all : (("thing" : Str) = "all") = False := eq_false (by decide +kernel)
@[simp] theorem w_thing_fun : (("thing" : Str) = "fun") = False := eq_false (by decide +kernel)
@[simp] theorem w_thing_app : (("thing" : Str) = "app") = False := eq_false (by decide +kernel)
@[simp] theorem w_thing_name : (("thing" : Str) = "name") = False := eq_false (by decide +kernel)
@[simp] theorem w_thing_maker : (("thing" : Str) = "maker") = False := eq_false (by decide +kernel)
@[simp] theorem w_thing_eater : (("thing" : Str) = "eater") = False := eq_false (by decide +kernel)
@[simp] theorem w_thing_same : (("thing" : Str) = "same") = False := eq_false (by decide +kernel)
@[simp] theorem w_thing_self : (("thing" : Str) = "self") = False := eq_false (by decide +kernel)
@[simp] theorem w_thing_put : (("thing" : Str) = "put") = False := eq_false (by decide +kernel)
@[simp] theorem w_thing_mean : (("thing" : Str) = "mean") = False := eq_false (by decide +kernel)
@[simp] theorem w_thing_hold : (("thing" : Str) = "hold") = False := eq_false (by decide +kernel)
@[simp] theorem w_thing_give : (("thing" : Str) = "give") = False := eq_false (by decide +kernel)
@[simp] theorem w_thing_eat : (("thing" : Str) = "eat") = False := eq_false (by decide +kernel)
@[simp] theorem w_maker_at : (("maker" : Str) = "at") = False := eq_false (by decide +kernel)
@[simp] theorem w_maker_kind : (("maker" : Str) = "kind") = False := eq_false (by decide +kernel)
@[simp] theorem w_maker_all : (("maker" : Str) = "all") = False := eq_false (by decide +kernel)
@[simp] theorem w_maker_fun : (("maker" : Str) = "fun") = False := eq_false (by decide +kernel)
@[simp] theorem w_maker_app : (("maker" : Str) = "app") = False := eq_false (by decide +kernel)
@[simp] theorem w_maker_name : (("maker" : Str) = "name") = False := eq_false (by decide +kernel)
@[simp] theorem w_maker_thing : (("maker" : Str) = "thing") = False := eq_false (by decide +kernel)
@[simp] theorem w_maker_eater : (("maker" : Str) = "eater") = False := eq_false (by decide +kernel)
@[simp] theorem w_maker_same : (("maker" : Str) = "same") = False := eq_false (by decide +kernel)
@[simp] theorem w_maker_self : (("maker" : Str) = "self") = False := eq_false (by decide +kernel)
@[simp] theorem w_maker_put : (("maker" : Str) = "put") = False := eq_false (by decide +kernel)
@[simp] theorem w_maker_mean : (("maker" : Str) = "mean") = False := eq_false (by decide +kernel)
@[simp] theorem w_maker_hold : (("maker" : Str) = "hold") = False := eq_false (by decide +kernel)
@[simp] theorem w_maker_give : (("maker" : Str) = "give") = False := eq_false (by decide +kernel)
@[simp] theorem w_maker_eat : (("maker" : Str) = "eat") = False := eq_false (by decide +kernel)
@[simp] theorem w_eater_at : (("eater" : Str) = "at") = False := eq_false (by decide +kernel)
@[simp] theorem w_eater_kind : (("eater" : Str) = "kind") = False := eq_false (by decide +kernel)
@[simp] theorem w_eater_all : (("eater" : Str) = "all") = False := eq_false (by decide +kernel)
@[simp] theorem w_eater_fun : (("eater" : Str) = "fun") = False := eq_false (by decide +kernel)
@[simp] theorem w_eater_app : (("eater" : Str) = "app") = False := eq_false (by decide +kernel)
@[simp] theorem w_eater_name : (("eater" : Str) = "name") = False := eq_false (by decide +kernel)
@[simp] theorem w_eater_thing : (("eater" : Str) = "thing") = False := eq_false (by decide +kernel)
@[simp] theorem w_eater_maker : (("eater" : Str) = "maker") = False := eq_false (by decide +kernel)
@[simp] theorem w_eater_same : (("eater" : Str) = "same") = False := eq_false (by decide +kernel)
@[simp] theorem w_eater_self : (("eater" : Str) = "self") = False := eq_false (by decide +kernel)
@[simp] theorem w_eater_put : (("eater" : Str) = "put") = False := eq_false (by decide +kernel)
@[simp] theorem w_eater_mean : (("eater" : Str) = "mean") = False := eq_false (by decide +kernel)
@[simp] theorem w_eater_hold : (("eater" : Str) = "hold") = False := eq_false (by decide +kernel)
@[simp] theorem w_eater_give : (("eater" : Str) = "give") = False := eq_false (by decide +kernel)
@[simp] theorem w_eater_eat : (("eater" : Str) = "eat") = False := eq_false (by decide +kernel)
@[simp] theorem w_same_at : (("same" : Str) = "at") = False := eq_false (by decide +kernel)
@[simp] theorem w_same_kind : (("same" : Str) = "kind") = False := eq_false (by decide +kernel)
@[simp] theorem w_same_all : (("same" : Str) = "all") = False := eq_false (by decide +kernel)
@[simp] theorem w_same_fun : (("same" : Str) = "fun") = False := eq_false (by decide +kernel)
@[simp] theorem w_same_app : (("same" : Str) = "app") = False := eq_false (by decide +kernel)
@[simp] theorem w_same_name : (("same" : Str) = "name") = False := eq_false (by decide +kernel)
@[simp] theorem w_same_thing : (("same" : Str) = "thing") = False := eq_false (by decide +kernel)
@[simp] theorem w_same_maker : (("same" : Str) = "maker") = False := eq_false (by decide +kernel)
@[simp] theorem w_same_eater : (("same" : Str) = "eater") = False := eq_false (by decide +kernel)
@[simp] theorem w_same_self : (("same" : Str) = "self") = False := eq_false (by decide +kernel)
@[simp] theorem w_same_put : (("same" : Str) = "put") = False := eq_false (by decide +kernel)
@[simp] theorem w_same_mean : (("same" : Str) = "mean") = False := eq_false (by decide +kernel)
@[simp] theorem w_same_hold : (("same" : Str) = "hold") = False := eq_false (by decide +kernel)
@[simp] theorem w_same_give : (("same" : Str) = "give") = False := eq_false (by decide +kernel)
@[simp] theorem w_same_eat : (("same" : Str) = "eat") = False := eq_false (by decide +kernel)
@[simp] theorem w_self_at : (("self" : Str) = "at") = False := eq_false (by decide +kernel)
@[simp] theorem w_self_kind : (("self" : Str) = "kind") = False := eq_false (by decide +kernel)
@[simp] theorem w_self_all : (("self" : Str) = "all") = False := eq_false (by decide +kernel)
@[simp] theorem w_self_fun : (("self" : Str) = "fun") = False := eq_false (by decide +kernel)
@[simp] theorem w_self_app : (("self" : Str) = "app") = False := eq_false (by decide +kernel)
@[simp] theorem w_self_name : (("self" : Str) = "name") = False := eq_false (by decide +kernel)
@[simp] theorem w_self_thing : (("self" : Str) = "thing") = False := eq_false (by decide +kernel)
@[simp] theorem w_self_maker : (("self" : Str) = "maker") = False := eq_false (by decide +kernel)
@[simp] theorem w_self_eater : (("self" : Str) = "eater") = False := eq_false (by decide +kernel)
@[simp] theorem w_self_same : (("self" : Str) = "same") = False := eq_false (by decide +kernel)
@[simp] theorem w_self_put : (("self" : Str) = "put") = False := eq_false (by decide +kernel)
@[simp] theorem w_self_mean : (("self" : Str) = "mean") = False := eq_false (by decide +kernel)
@[simp] theorem w_self_hold : (("self" : Str) = "hold") = False := eq_false (by decide +kernel)
@[simp] theorem w_self_give : (("self" : Str) = "give") = False := eq_false (by decide +kernel)
@[simp] theorem w_self_eat : (("self" : Str) = "eat") = False := eq_false (by decide +kernel)
@[simp] theorem w_put_at : (("put" : Str) = "at") = False := eq_false (by decide +kernel)
@[simp] theorem w_put_kind : (("put" : Str) = "kind") = False := eq_false (by decide +kernel)
@[simp] theorem w_put_all : (("put" : Str) = "all") = False := eq_false (by decide +kernel)
@[simp] theorem w_put_fun : (("put" : Str) = "fun") = False := eq_false (by decide +kernel)
@[simp] theorem w_put_app : (("put" : Str) = "app") = False := eq_false (by decide +kernel)
@[simp] theorem w_put_name : (("put" : Str) = "name") = False := eq_false (by decide +kernel)
@[simp] theorem w_put_thing : (("put" : Str) = "thing") = False := eq_false (by decide +kernel)
@[simp] theorem w_put_maker : (("put" : Str) = "maker") = False := eq_false (by decide +kernel)
@[simp] theorem w_put_eater : (("put" : Str) = "eater") = False := eq_false (by decide +kernel)
@[simp] theorem w_put_same : (("put" : Str) = "same") = False := eq_false (by decide +kernel)
@[simp] theorem w_put_self : (("put" : Str) = "self") = False := eq_false (by decide +kernel)
@[simp] theorem w_put_mean : (("put" : Str) = "mean") = False := eq_false (by decide +kernel)
@[simp] theorem w_put_hold : (("put" : Str) = "hold") = False := eq_false (by decide +kernel)
@[simp] theorem w_put_give : (("put" : Str) = "give") = False := eq_false (by decide +kernel)
@[simp] theorem w_put_eat : (("put" : Str) = "eat") = False := eq_false (by decide +kernel)
@[simp] theorem w_mean_at : (("mean" : Str) = "at") = False := eq_false (by decide +kernel)
@[simp] theorem w_mean_kind : (("mean" : Str) = "kind") = False := eq_false (by decide +kernel)
@[simp] theorem w_mean_all : (("mean" : Str) = "all") = False := eq_false (by decide +kernel)
@[simp] theorem w_mean_fun : (("mean" : Str) = "fun") = False := eq_false (by decide +kernel)
@[simp] theorem w_mean_app : (("mean" : Str) = "app") = False := eq_false (by decide +kernel)
@[simp] theorem w_mean_name : (("mean" : Str) = "name") = False := eq_false (by decide +kernel)
@[simp] theorem w_mean_thing : (("mean" : Str) = "thing") = False := eq_false (by decide +kernel)
@[simp] theorem w_mean_maker : (("mean" : Str) = "maker") = False := eq_false (by decide +kernel)
@[simp] theorem w_mean_eater : (("mean" : Str) = "eater") = False := eq_false (by decide +kernel)
@[simp] theorem w_mean_same : (("mean" : Str) = "same") = False := eq_false (by decide +kernel)
@[simp] theorem w_mean_self : (("mean" : Str) = "self") = False := eq_false (by decide +kernel)
@[simp] theorem w_mean_put : (("mean" : Str) = "put") = False := eq_false (by decide +kernel)
@[simp] theorem w_mean_hold : (("mean" : Str) = "hold") = False := eq_false (by decide +kernel)
@[simp] theorem w_mean_give : (("mean" : Str) = "give") = False := eq_false (by decide +kernel)
@[simp] theorem w_mean_eat : (("mean" : Str) = "eat") = False := eq_false (by decide +kernel)
@[simp] theorem w_hold_at : (("hold" : Str) = "at") = False := eq_false (by decide +kernel)
@[simp] theorem w_hold_kind : (("hold" : Str) = "kind") = False := eq_false (by decide +kernel)
@[simp] theorem w_hold_all : (("hold" : Str) = "all") = False := eq_false (by decide +kernel)
@[simp] theorem w_hold_fun : (("hold" : Str) = "fun") = False := eq_false (by decide +kernel)
@[simp] theorem w_hold_app : (("hold" : Str) = "app") = False := eq_false (by decide +kernel)
@[simp] theorem w_hold_name : (("hold" : Str) = "name") = False := eq_false (by decide +kernel)
@[simp] theorem w_hold_thing : (("hold" : Str) = "thing") = False := eq_false (by decide +kernel)
@[simp] theorem w_hold_maker : (("hold" : Str) = "maker") = False := eq_false (by decide +kernel)
@[simp] theorem w_hold_eater : (("hold" : Str) = "eater") = False := eq_false (by decide +kernel)
@[simp] theorem w_hold_same : (("hold" : Str) = "same") = False := eq_false (by decide +kernel)
@[simp] theorem w_hold_self : (("hold" : Str) = "self") = False := eq_false (by decide +kernel)
@[simp] theorem w_hold_put : (("hold" : Str) = "put") = False := eq_false (by decide +kernel)
@[simp] theorem w_hold_mean : (("hold" : Str) = "mean") = False := eq_false (by decide +kernel)
@[simp] theorem w_hold_give : (("hold" : Str) = "give") = False := eq_false (by decide +kernel)
@[simp] theorem w_hold_eat : (("hold" : Str) = "eat") = False := eq_false (by decide +kernel)
@[simp] theorem w_give_at : (("give" : Str) = "at") = False := eq_false (by decide +kernel)
@[simp] theorem w_give_kind : (("give" : Str) = "kind") = False := eq_false (by decide +kernel)
@[simp] theorem w_give_all : (("give" : Str) = "all") = False := eq_false (by decide +kernel)
@[simp] theorem w_give_fun : (("give" : Str) = "fun") = False := eq_false (by decide +kernel)
@[simp] theorem w_give_app : (("give" : Str) = "app") = False := eq_false (by decide +kernel)
@[simp] theorem w_give_name : (("give" : Str) = "name") = False := eq_false (by decide +kernel)
@[simp] theorem w_give_thing : (("give" : Str) = "thing") = False := eq_false (by decide +kernel)
@[simp] theorem w_give_maker : (("give" : Str) = "maker") = False := eq_false (by decide +kernel)
@[simp] theorem w_give_eater : (("give" : Str) = "eater") = False := eq_false (by decide +kernel)
@[simp] theorem w_give_same : (("give" : Str) = "same") = False := eq_false (by decide +kernel)
@[simp] theorem w_give_self : (("give" : Str) = "self") = False := eq_false (by decide +kernel)
@[simp] theorem w_give_put : (("give" : Str) = "put") = False := eq_false (by decide +kernel)
@[simp] theorem w_give_mean : (("give" : Str) = "mean") = False := eq_false (by decide +kernel)
@[simp] theorem w_give_hold : (("give" : Str) = "hold") = False := eq_false (by decide +kernel)
@[simp] theorem w_give_eat : (("give" : Str) = "eat") = False := eq_false (by decide +kernel)
@[simp] theorem w_eat_at : (("eat" : Str) = "at") = False := eq_false (by decide +kernel)
@[simp] theorem w_eat_kind : (("eat" : Str) = "kind") = False := eq_false (by decide +kernel)
@[simp] theorem w_eat_all : (("eat" : Str) = "all") = False := eq_false (by decide +kernel)
@[simp] theorem w_eat_fun : (("eat" : Str) = "fun") = False := eq_false (by decide +kernel)
@[simp] theorem w_eat_app : (("eat" : Str) = "app") = False := eq_false (by decide +kernel)
@[simp] theorem w_eat_name : (("eat" : Str) = "name") = False := eq_false (by decide +kernel)
@[simp] theorem w_eat_thing : (("eat" : Str) = "thing") = False := eq_false (by decide +kernel)
@[simp] theorem w_eat_maker : (("eat" : Str) = "maker") = False := eq_false (by decide +kernel)
@[simp] theorem w_eat_eater : (("eat" : Str) = "eater") = False := eq_false (by decide +kernel)
@[simp] theorem w_eat_same : (("eat" : Str) = "same") = False := eq_false (by decide +kernel)
@[simp] theorem w_eat_self : (("eat" : Str) = "self") = False := eq_false (by decide +kernel)
@[simp] theorem w_eat_put : (("eat" : Str) = "put") = False := eq_false (by decide +kernel)
@[simp] theorem w_eat_mean : (("eat" : Str) = "mean") = False := eq_false (by decide +kernel)
@[simp] theorem w_eat_hold : (("eat" : Str) = "hold") = False := eq_false (by decide +kernel)
@[simp] theorem w_eat_give : (("eat" : Str) = "give") = False := eq_false (by decide +kernel)
@[simp] theorem fm_at : formsD.lookup ("at" : Str) = some (D.str "n") := by kernel_rfl
@[simp] theorem fm_kind : formsD.lookup ("kind" : Str) = some (D.str "h") := by kernel_rfl
@[simp] theorem fm_all : formsD.lookup ("all" : Str) = some (D.str "tt") := by kernel_rfl
@[simp] theorem fm_fun : formsD.lookup ("fun" : Str) = some (D.str "tt") := by kernel_rfl
@[simp] theorem fm_app : formsD.lookup ("app" : Str) = some (D.str "tt") := by kernel_rfl
@[simp] theorem fm_name : formsD.lookup ("name" : Str) = some (D.str "w") := by kernel_rfl
@[simp] theorem fm_thing : formsD.lookup ("thing" : Str) = some (D.str "w") := by kernel_rfl
@[simp] theorem fm_maker : formsD.lookup ("maker" : Str) = some (D.str "wn") := by kernel_rfl
@[simp] theorem fm_eater : formsD.lookup ("eater" : Str) = some (D.str "wh") := by kernel_rfl
@[simp] theorem fm_same : formsD.lookup ("same" : Str) = some (D.str "ttt") := by kernel_rfl
@[simp] theorem fm_self : formsD.lookup ("self" : Str) = some (D.str "tt") := by kernel_rfl
@[simp] theorem fm_put : formsD.lookup ("put" : Str) = some (D.str "ttt") := by kernel_rfl
@[simp] theorem l_n : (⟨#[110]⟩ : Str) = "n" := by kernel_rfl
@[simp] theorem l_h : (⟨#[104]⟩ : Str) = "h" := by kernel_rfl
@[simp] theorem l_w : (⟨#[119]⟩ : Str) = "w" := by kernel_rfl
@[simp] theorem l_t : (⟨#[116]⟩ : Str) = "t" := by kernel_rfl
@[simp] theorem w_n_h : (("n" : Str) = "h") = False := eq_false (by decide +kernel)
@[simp] theorem w_n_w : (("n" : Str) = "w") = False := eq_false (by decide +kernel)
@[simp] theorem w_n_t : (("n" : Str) = "t") = False := eq_false (by decide +kernel)
@[simp] theorem w_h_n : (("h" : Str) = "n") = False := eq_false (by decide +kernel)
@[simp] theorem w_h_w : (("h" : Str) = "w") = False := eq_false (by decide +kernel)
@[simp] theorem w_h_t : (("h" : Str) = "t") = False := eq_false (by decide +kernel)
@[simp] theorem w_w_n : (("w" : Str) = "n") = False := eq_false (by decide +kernel)
@[simp] theorem w_w_h : (("w" : Str) = "h") = False := eq_false (by decide +kernel)
@[simp] theorem w_w_t : (("w" : Str) = "t") = False := eq_false (by decide +kernel)
@[simp] theorem w_t_n : (("t" : Str) = "n") = False := eq_false (by decide +kernel)
@[simp] theorem w_t_h : (("t" : Str) = "h") = False := eq_false (by decide +kernel)
@[simp] theorem w_t_w : (("t" : Str) = "w") = False := eq_false (by decide +kernel)
@[simp] theorem cp_h : ("h" : Str).cps.toList = [104] := by kernel_rfl
@[simp] theorem ln_h : ("h" : Str).length = 1 := by kernel_rfl
@[simp] theorem hasT_h : (116 ∈ ("h" : Str).cps) = False := eq_false (by decide +kernel)
@[simp] theorem cp_n : ("n" : Str).cps.toList = [110] := by kernel_rfl
@[simp] theorem ln_n : ("n" : Str).length = 1 := by kernel_rfl
@[simp] theorem hasT_n : (116 ∈ ("n" : Str).cps) = False := eq_false (by decide +kernel)
@[simp] theorem cp_tt : ("tt" : Str).cps.toList = [116, 116] := by kernel_rfl
@[simp] theorem ln_tt : ("tt" : Str).length = 2 := by kernel_rfl
@[simp] theorem hasT_tt : (116 ∈ ("tt" : Str).cps) = True := eq_true (by decide +kernel)
@[simp] theorem cp_ttt : ("ttt" : Str).cps.toList = [116, 116, 116] := by kernel_rfl
@[simp] theorem ln_ttt : ("ttt" : Str).length = 3 := by kernel_rfl
@[simp] theorem hasT_ttt : (116 ∈ ("ttt" : Str).cps) = True := eq_true (by decide +kernel)
@[simp] theorem cp_w : ("w" : Str).cps.toList = [119] := by kernel_rfl
@[simp] theorem ln_w : ("w" : Str).length = 1 := by kernel_rfl
@[simp] theorem hasT_w : (116 ∈ ("w" : Str).cps) = False := eq_false (by decide +kernel)
@[simp] theorem cp_wh : ("wh" : Str).cps.toList = [119, 104] := by kernel_rfl
@[simp] theorem ln_wh : ("wh" : Str).length = 2 := by kernel_rfl
@[simp] theorem hasT_wh : (116 ∈ ("wh" : Str).cps) = False := eq_false (by decide +kernel)
@[simp] theorem cp_wn : ("wn" : Str).cps.toList = [119, 110] := by kernel_rfl
@[simp] theorem ln_wn : ("wn" : Str).length = 2 := by kernel_rfl
@[simp] theorem hasT_wn : (116 ∈ ("wn" : Str).cps) = False := eq_false (by decide +kernel)
@[simp] theorem in_binders_at : ((("at" : Str) ∈ bindersD) = False) := by simp [bindersD]
@[simp] theorem in_heads_at : ((("at" : Str) ∈ headsD) = False) := by simp [headsD]
@[simp] theorem in_binders_kind : ((("kind" : Str) ∈ bindersD) = False) := by simp [bindersD]
@[simp] theorem in_heads_kind : ((("kind" : Str) ∈ headsD) = False) := by simp [headsD]
@[simp] theorem in_binders_all : ((("all" : Str) ∈ bindersD) = True) := by simp [bindersD]
@[simp] theorem in_heads_all : ((("all" : Str) ∈ headsD) = False) := by simp [headsD]
@[simp] theorem in_binders_fun : ((("fun" : Str) ∈ bindersD) = True) := by simp [bindersD]
@[simp] theorem in_heads_fun : ((("fun" : Str) ∈ headsD) = False) := by simp [headsD]
@[simp] theorem in_binders_app : ((("app" : Str) ∈ bindersD) = False) := by simp [bindersD]
@[simp] theorem in_heads_app : ((("app" : Str) ∈ headsD) = False) := by simp [headsD]
@[simp] theorem in_binders_name : ((("name" : Str) ∈ bindersD) = False) := by simp [bindersD]
@[simp] theorem in_heads_name : ((("name" : Str) ∈ headsD) = False) := by simp [headsD]
@[simp] theorem in_binders_thing : ((("thing" : Str) ∈ bindersD) = False) := by simp [bindersD]
@[simp] theorem in_heads_thing : ((("thing" : Str) ∈ headsD) = True) := by simp [headsD]
@[simp] theorem in_binders_maker : ((("maker" : Str) ∈ bindersD) = False) := by simp [bindersD]
@[simp] theorem in_heads_maker : ((("maker" : Str) ∈ headsD) = True) := by simp [headsD]
@[simp] theorem in_binders_eater : ((("eater" : Str) ∈ bindersD) = False) := by simp [bindersD]
@[simp] theorem in_heads_eater : ((("eater" : Str) ∈ headsD) = True) := by simp [headsD]
@[simp] theorem in_binders_same : ((("same" : Str) ∈ bindersD) = False) := by simp [bindersD]
@[simp] theorem in_heads_same : ((("same" : Str) ∈ headsD) = False) := by simp [headsD]
@[simp] theorem in_binders_self : ((("self" : Str) ∈ bindersD) = False) := by simp [bindersD]
@[simp] theorem in_heads_self : ((("self" : Str) ∈ headsD) = False) := by simp [headsD]
@[simp] theorem in_binders_put : ((("put" : Str) ∈ bindersD) = False) := by simp [bindersD]
@[simp] theorem in_heads_put : ((("put" : Str) ∈ headsD) = False) := by simp [headsD]
@[simp] theorem in_binders_mean : ((("mean" : Str) ∈ bindersD) = False) := by simp [bindersD]
@[simp] theorem in_heads_mean : ((("mean" : Str) ∈ headsD) = False) := by simp [headsD]
@[simp] theorem in_binders_hold : ((("hold" : Str) ∈ bindersD) = False) := by simp [bindersD]
@[simp] theorem in_heads_hold : ((("hold" : Str) ∈ headsD) = False) := by simp [headsD]
@[simp] theorem in_binders_give : ((("give" : Str) ∈ bindersD) = False) := by simp [bindersD]
@[simp] theorem in_heads_give : ((("give" : Str) ∈ headsD) = False) := by simp [headsD]
@[simp] theorem in_binders_eat : ((("eat" : Str) ∈ bindersD) = False) := by simp [bindersD]
@[simp] theorem in_heads_eat : ((("eat" : Str) ∈ headsD) = False) := by simp [headsD]
@[simp] theorem exT {p : Nat → Prop} : (∃ c, ("t" : Str) = ⟨#[c]⟩ ∧ p c) = p 116 := propext ⟨fun ⟨c, e, h⟩ => by
  have e2 : (⟨#[116]⟩ : Str) = ⟨#[c]⟩ := by rw [← e]; kernel_rfl
  cases e2; exact h, fun h => ⟨116, by kernel_rfl, h⟩⟩
/-! ### lists by place -/
section
variable {α : Type}
@[simp] theorem atI_0 (a : α) (l : List α) : atI (a :: l) 0 = some a := by
  have e : ixN (a :: l).length 0 = some 0 := by
    unfold ixN
    rw [if_pos (by decide), if_pos (by simp only [List.length_cons]; omega)]; rfl
  unfold atI
  rw [e]; rfl
theorem atI_nat (l : List α) (n : Nat) : atI l (n : Int) = l[n]? := by
  unfold atI ixN
  by_cases h : n < l.length
  · rw [if_pos (by omega), if_pos (by omega)]; simp
  · rw [if_pos (by omega), if_neg (by omega)]
    rw [List.getElem?_eq_none (by omega)]; rfl
@[simp] theorem atI_1 (a b : α) (l : List α) : atI (a :: b :: l) 1 = some b := atI_nat (a :: b :: l) 1
@[simp] theorem atI_2 (a b c : α) (l : List α) : atI (a :: b :: c :: l) 2 = some c := atI_nat (a :: b :: c :: l) 2
@[simp] theorem atI_3 (a b c d : α) (l : List α) : atI (a :: b :: c :: d :: l) 3 = some d := atI_nat (a :: b :: c :: d :: l) 3
@[simp] theorem atI_4 (a b c d e : α) (l : List α) : atI (a :: b :: c :: d :: e :: l) 4 = some e := atI_nat (a :: b :: c :: d :: e :: l) 4
theorem atI_last (l : List α) : atI l (-1) = l.getLast? := by
  unfold atI ixN
  cases l with
  | nil => rfl
  | cons a l =>
    rw [if_neg (by decide), if_pos (by simp only [List.length_cons]; omega)]
    have e : ((-1 : Int) + ((a :: l).length : Nat)).toNat = (a :: l).length - 1 := by simp only [List.length_cons]; omega
    rw [e, List.getLast?_eq_getElem?]; rfl
end
theorem cutD_from (ds : List D) (n : Nat) : cutD ds (some (n : Int)) none = ds.drop n := by
  unfold cutD
  rw [HT.sIx_nat, HT.sIx_none]
  by_cases h : n ≤ ds.length
  · rw [Nat.min_eq_left h, List.take_of_length_le (i := ds.length - n) (by rw [List.length_drop]; exact Nat.le_refl _)]
  · rw [Nat.min_eq_right (by omega), List.drop_eq_nil_of_le (show ds.length ≤ n by omega), List.drop_eq_nil_of_le (Nat.le_refl ds.length)]; simp
@[simp] theorem cutD_1 (d : D) (ds : List D) : cutD (d :: ds) (some 1) none = ds := cutD_from (d :: ds) 1
@[simp] theorem cutD_2 (d e : D) (ds : List D) : cutD (d :: e :: ds) (some 2) none = ds := cutD_from (d :: e :: ds) 2
theorem cutD_to (ds : List D) (n : Nat) : cutD ds none (some (n : Int)) = ds.take n := by
  unfold cutD
  rw [HT.sIx_nat, HT.sIx_none]
  by_cases h : n ≤ ds.length
  · rw [Nat.min_eq_left h]; simp
  · rw [Nat.min_eq_right (by omega), List.take_of_length_le (i := n) (by omega)]; simp
theorem cutD_last (ds : List D) : cutD ds none (some (-1)) = ds.dropLast := by
  unfold cutD
  have e : HT.sIx ds.length ds.length (some (-1)) = ds.length - 1 := by
    show (if (-1 : Int) < 0 then ((-1 : Int) + (ds.length : Int)).toNat else min (-1 : Int).toNat ds.length) = _
    rw [if_pos (by decide)]; omega
  rw [e, HT.sIx_none, List.dropLast_eq_take]; simp
/-! ### comprehensions that leave the purse alone -/
theorem lcD_map {α : Type} {T : Tgt} {f : DTe} {ρ : DEnv} {π : Pu} {e h : α → D} : ∀ {xs : List α} {acc : List D} {Q : List D → Pu → Prop}, (∀ x ∈ xs, ∀ K : D → Pu → Prop, K (h x) π → stD T (e x) ρ fun ρ' => f ρ' π K) → acc.length + xs.length ≤ 1000000 → Q (acc ++ xs.map h) π → lcD T f ρ (xs.map e) acc π Q
  | [], acc, Q, _, _, q => by simpa [lcD] using q
  | x :: xs, acc, Q, hx, hl, q => by
    refine ⟨by simp only [List.length_cons] at hl; omega, hx x List.mem_cons_self _ ?_⟩
    exact lcD_map (fun y hy => hx y (List.mem_cons_of_mem _ hy)) (by simp only [List.length_cons, List.length_append, List.length_nil] at hl ⊢; omega) (by simpa using q)
theorem kAll_true {α : Type} {xs : List α} {Q : KD} (q : Q (.bl true)) : kAll [.lst (xs.map fun _ => D.bl true)] Q :=
  ⟨xs.map fun _ => true, by rw [List.map_map]; rfl, by
    have e : (xs.map fun _ => true).all id = true := by simp
    rw [e]; exact q⟩
@[simp] theorem kAll_1 {a : Bool} {Q : KD} : kAll [.lst [.bl a]] Q = Q (.bl a) := propext ⟨fun ⟨bs, e, q⟩ => by
  match bs, e, q with
  | [b], e, q => simp at e; subst e; simpa using q, fun q => ⟨[a], rfl, by simpa using q⟩⟩
@[simp] theorem kAll_2 {a b : Bool} {Q : KD} : kAll [.lst [.bl a, .bl b]] Q = Q (.bl (a && b)) := propext ⟨fun ⟨bs, e, q⟩ => by
  match bs, e, q with
  | [c, d], e, q => simp at e; obtain ⟨e1, e2⟩ := e; subst e1 e2; simpa using q, fun q => ⟨[a, b], rfl, by simpa using q⟩⟩
@[simp] theorem kAll_3 {a b c : Bool} {Q : KD} : kAll [.lst [.bl a, .bl b, .bl c]] Q = Q (.bl (a && (b && c))) := propext ⟨fun ⟨bs, e, q⟩ => by
  match bs, e, q with
  | [x, y, z], e, q => simp at e; obtain ⟨e1, e2, e3⟩ := e; subst e1 e2 e3; simpa using q, fun q => ⟨[a, b, c], rfl, by simpa using q⟩⟩
def spD (sp : List Int) : D := .tup (sp.map .int)
theorem ints_inj {a b : List Int} (h : a.map D.int = b.map D.int) : a = b := (List.map_inj_right fun _ _ e => by cases e; rfl).mp h
@[simp] theorem spD_eq {a b : List Int} : (spD a = spD b) = (a = b) := propext ⟨fun h => by simp only [spD, D.tup.injEq] at h; exact ints_inj h, fun h => h ▸ rfl⟩
@[simp] theorem spD_tup {a : List Int} {ds : List D} : (spD a = .tup ds) = (a.map .int = ds) := by simp [spD]
@[simp] theorem ix_spD {a : List Int} {i : Int} {Q : KD} : kIx (spD a) (.int i) Q = ∃ d, atI (a.map .int) i = some d ∧ Q d := kIx_tup
@[simp] theorem sl_spD {a : List Int} {lo hi : Option Int} {Q : KD} : kSl (spD a) lo hi Q = Q (.tup (cutD (a.map .int) lo hi)) := kSl_tup
@[simp] theorem spD_lst {a : List Int} {ds : List D} : (spD a = .lst ds) = False := by simp [spD]
@[simp] theorem spD_str {a : List Int} {ds : Str} : (spD a = .str ds) = False := by simp [spD]
@[simp] theorem spD_inp {a : List Int} {ds : List Int} : (spD a = .inp ds) = False := by simp [spD]
theorem enumD_eq : ∀ (k : Nat) (ds : List D), enumD k ds = (ds.zipIdx k).map fun p => .tup [.int (p.2 : Nat), p.1]
  | _, [] => rfl
  | k, d :: r => by simp [enumD_eq (k + 1) r]
/-! ### terms -/
inductive Bn where
  | al | fn | ap | sf
  deriving DecidableEq
inductive Tr where
  | sm | pt
  deriving DecidableEq
inductive Lf where
  | kind (h : Int)
  | name (s : Str)
  | thing (s : Str)
  | maker (s : Str) (n : Int)
  | eater (s : Str) (h : Int)
  deriving DecidableEq
inductive T where
  | var (n : Int)
  | leaf (l : Lf)
  | bin (b : Bn) (x y : T)
  | tri (t : Tr) (x y z : T)
  deriving DecidableEq
@[simp] theorem strs_eq {a b : List Str} : (a.map D.str = b.map D.str) = (a = b) := propext ⟨fun h => (List.map_inj_right fun _ _ e => by cases e; rfl).mp h, fun h => h ▸ rfl⟩
@[simp] theorem natInj {n m : Nat} : ((n : Int) = (m : Int)) = (n = m) := propext ⟨fun h => by omega, fun h => by rw [h]⟩
def Bn.s : Bn → Str
  | .al => "all"
  | .fn => "fun"
  | .ap => "app"
  | .sf => "self"
@[simp] theorem s_al : Bn.al.s = "all" := rfl
@[simp] theorem s_fn : Bn.fn.s = "fun" := rfl
@[simp] theorem s_ap : Bn.ap.s = "app" := rfl
@[simp] theorem s_sf : Bn.sf.s = "self" := rfl
def Tr.s : Tr → Str
  | .sm => "same"
  | .pt => "put"
@[simp] theorem s_sm : Tr.sm.s = "same" := rfl
@[simp] theorem s_pt : Tr.pt.s = "put" := rfl
def Lf.d : Lf → List D
  | .kind h => [.str "kind", .int h]
  | .name s => [.str "name", .str s]
  | .thing s => [.str "thing", .str s]
  | .maker s n => [.str "maker", .str s, .int n]
  | .eater s h => [.str "eater", .str s, .int h]
def toD : T → D
  | .var n => .tup [.str "at", .int n]
  | .leaf l => .tup l.d
  | .bin b x y => .tup [.str b.s, toD x, toD y]
  | .tri t x y z => .tup [.str t.s, toD x, toD y, toD z]
theorem bn_inj {a b : Bn} (h : a.s = b.s) : a = b := by cases a <;> cases b <;> first | rfl | (simp at h)
theorem tr_inj {a b : Tr} (h : a.s = b.s) : a = b := by cases a <;> cases b <;> first | rfl | (simp at h)
theorem lf_inj {a b : Lf} (h : a.d = b.d) : a = b := by cases a <;> cases b <;> simp [Lf.d] at h <;> simp_all
theorem toD_inj : ∀ {a b : T}, toD a = toD b → a = b
  | .var n, .var m, h => by simp [toD, Lf.d] at h; rw [h]
  | .var n, .leaf l, h => by cases l <;> simp [toD, Lf.d] at h
  | .var n, .bin b x y, h => by cases b <;> simp [toD, Lf.d] at h
  | .var n, .tri b x y z, h => by simp [toD, Lf.d] at h
  | .leaf l, .var n, h => by cases l <;> simp [toD, Lf.d] at h
  | .leaf l, .leaf m, h => by simp only [toD, D.tup.injEq] at h; rw [lf_inj h]
  | .leaf l, .bin b x y, h => by cases l <;> cases b <;> simp [toD, Lf.d] at h
  | .leaf l, .tri b x y z, h => by cases l <;> cases b <;> simp [toD, Lf.d] at h
  | .bin b x y, .var n, h => by cases b <;> simp [toD, Lf.d] at h
  | .bin b x y, .leaf l, h => by cases l <;> cases b <;> simp [toD, Lf.d] at h
  | .bin b x y, .bin c u v, h => by
    simp only [toD, D.tup.injEq, List.cons.injEq, D.str.injEq, and_true] at h
    rw [bn_inj h.1, toD_inj h.2.1, toD_inj h.2.2]
  | .bin b x y, .tri c u v z, h => by simp [toD, Lf.d] at h
  | .tri b x y z, .var n, h => by simp [toD, Lf.d] at h
  | .tri b x y z, .leaf l, h => by cases l <;> cases b <;> simp [toD, Lf.d] at h
  | .tri b x y z, .bin c u v, h => by simp [toD, Lf.d] at h
  | .tri b x y z, .tri c u v w, h => by
    simp only [toD, D.tup.injEq, List.cons.injEq, D.str.injEq, and_true] at h
    rw [tr_inj h.1, toD_inj h.2.1, toD_inj h.2.2.1, toD_inj h.2.2.2]
section
variable {n m : Int} {s : Str} {b : Bn} {c : Tr} {x y z t : T} {ds : List D} {ty : Tn}
@[simp] theorem tl_var : (toD (.var n) = .tup ds) = ([.str "at", .int n] = ds) := by simp [toD]
@[simp] theorem tl_kind : (toD (.leaf (.kind n)) = .tup ds) = ([.str "kind", .int n] = ds) := by simp [toD, Lf.d]
@[simp] theorem tl_name : (toD (.leaf (.name s)) = .tup ds) = ([.str "name", .str s] = ds) := by simp [toD, Lf.d]
@[simp] theorem tl_thing : (toD (.leaf (.thing s)) = .tup ds) = ([.str "thing", .str s] = ds) := by simp [toD, Lf.d]
@[simp] theorem tl_maker : (toD (.leaf (.maker s n)) = .tup ds) = ([.str "maker", .str s, .int n] = ds) := by simp [toD, Lf.d]
@[simp] theorem tl_eater : (toD (.leaf (.eater s n)) = .tup ds) = ([.str "eater", .str s, .int n] = ds) := by simp [toD, Lf.d]
@[simp] theorem tl_bin : (toD (.bin b x y) = .tup ds) = ([.str b.s, toD x, toD y] = ds) := by simp [toD]
@[simp] theorem tl_tri : (toD (.tri c x y z) = .tup ds) = ([.str c.s, toD x, toD y, toD z] = ds) := by simp [toD]
@[simp] theorem tr_var : (.tup ds = toD (.var n)) = (ds = [.str "at", .int n]) := by simp [toD]
@[simp] theorem tr_kind : (.tup ds = toD (.leaf (.kind n))) = (ds = [.str "kind", .int n]) := by simp [toD, Lf.d]
@[simp] theorem tr_name : (.tup ds = toD (.leaf (.name s))) = (ds = [.str "name", .str s]) := by simp [toD, Lf.d]
@[simp] theorem tr_thing : (.tup ds = toD (.leaf (.thing s))) = (ds = [.str "thing", .str s]) := by simp [toD, Lf.d]
@[simp] theorem tr_maker : (.tup ds = toD (.leaf (.maker s n))) = (ds = [.str "maker", .str s, .int n]) := by simp [toD, Lf.d]
@[simp] theorem tr_eater : (.tup ds = toD (.leaf (.eater s n))) = (ds = [.str "eater", .str s, .int n]) := by simp [toD, Lf.d]
@[simp] theorem tr_bin : (.tup ds = toD (.bin b x y)) = (ds = [.str b.s, toD x, toD y]) := by simp [toD]
@[simp] theorem tr_tri : (.tup ds = toD (.tri c x y z)) = (ds = [.str c.s, toD x, toD y, toD z]) := by simp [toD]
@[simp] theorem ix_var {Q : KD} : kIx (toD (.var n)) (.int m) Q = ∃ d, atI [.str "at", .int n] m = some d ∧ Q d := kIx_tup
@[simp] theorem sl_var {lo hi : Option Int} {Q : KD} : kSl (toD (.var n)) lo hi Q = Q (.tup (cutD [.str "at", .int n] lo hi)) := kSl_tup
@[simp] theorem ix_kind {Q : KD} : kIx (toD (.leaf (.kind n))) (.int m) Q = ∃ d, atI [.str "kind", .int n] m = some d ∧ Q d := kIx_tup
@[simp] theorem sl_kind {lo hi : Option Int} {Q : KD} : kSl (toD (.leaf (.kind n))) lo hi Q = Q (.tup (cutD [.str "kind", .int n] lo hi)) := kSl_tup
@[simp] theorem ix_name {Q : KD} : kIx (toD (.leaf (.name s))) (.int m) Q = ∃ d, atI [.str "name", .str s] m = some d ∧ Q d := kIx_tup
@[simp] theorem sl_name {lo hi : Option Int} {Q : KD} : kSl (toD (.leaf (.name s))) lo hi Q = Q (.tup (cutD [.str "name", .str s] lo hi)) := kSl_tup
@[simp] theorem ix_thing {Q : KD} : kIx (toD (.leaf (.thing s))) (.int m) Q = ∃ d, atI [.str "thing", .str s] m = some d ∧ Q d := kIx_tup
@[simp] theorem sl_thing {lo hi : Option Int} {Q : KD} : kSl (toD (.leaf (.thing s))) lo hi Q = Q (.tup (cutD [.str "thing", .str s] lo hi)) := kSl_tup
@[simp] theorem ix_maker {Q : KD} : kIx (toD (.leaf (.maker s n))) (.int m) Q = ∃ d, atI [.str "maker", .str s, .int n] m = some d ∧ Q d := kIx_tup
@[simp] theorem sl_maker {lo hi : Option Int} {Q : KD} : kSl (toD (.leaf (.maker s n))) lo hi Q = Q (.tup (cutD [.str "maker", .str s, .int n] lo hi)) := kSl_tup
@[simp] theorem ix_eater {Q : KD} : kIx (toD (.leaf (.eater s n))) (.int m) Q = ∃ d, atI [.str "eater", .str s, .int n] m = some d ∧ Q d := kIx_tup
@[simp] theorem sl_eater {lo hi : Option Int} {Q : KD} : kSl (toD (.leaf (.eater s n))) lo hi Q = Q (.tup (cutD [.str "eater", .str s, .int n] lo hi)) := kSl_tup
@[simp] theorem ix_bin {Q : KD} : kIx (toD (.bin b x y)) (.int m) Q = ∃ d, atI [.str b.s, toD x, toD y] m = some d ∧ Q d := kIx_tup
@[simp] theorem sl_bin {lo hi : Option Int} {Q : KD} : kSl (toD (.bin b x y)) lo hi Q = Q (.tup (cutD [.str b.s, toD x, toD y] lo hi)) := kSl_tup
@[simp] theorem ix_tri {Q : KD} : kIx (toD (.tri c x y z)) (.int m) Q = ∃ d, atI [.str c.s, toD x, toD y, toD z] m = some d ∧ Q d := kIx_tup
@[simp] theorem sl_tri {lo hi : Option Int} {Q : KD} : kSl (toD (.tri c x y z)) lo hi Q = Q (.tup (cutD [.str c.s, toD x, toD y, toD z] lo hi)) := kSl_tup
theorem toD_is (t : T) : ∃ ds, toD t = .tup ds := by cases t <;> exact ⟨_, rfl⟩
@[simp] theorem tn_lst : (toD t = .lst ds) = False := by obtain ⟨es, e⟩ := toD_is t; rw [e]; simp
@[simp] theorem tn_str : (toD t = .str s) = False := by obtain ⟨es, e⟩ := toD_is t; rw [e]; simp
@[simp] theorem tn_int : (toD t = .int n) = False := by obtain ⟨es, e⟩ := toD_is t; rw [e]; simp
@[simp] theorem tn_non : (toD t = .non) = False := by obtain ⟨es, e⟩ := toD_is t; rw [e]; simp
@[simp] theorem tn_inp {ns : List Int} : (toD t = .inp ns) = False := by obtain ⟨es, e⟩ := toD_is t; rw [e]; simp
@[simp] theorem tyS_toD : tyS (toD t) = some "tuple" := by obtain ⟨es, e⟩ := toD_is t; rw [e]; rfl
@[simp] theorem isA_toD : isA (toD t) ty = (match ty with | .tuple => true | _ => false) := by obtain ⟨es, e⟩ := toD_is t; rw [e]; cases ty <;> rfl
@[simp] theorem isNon_toD : isNon (toD t) = false := by obtain ⟨es, e⟩ := toD_is t; rw [e]; rfl
@[simp] theorem len_var : lenD (toD (.var n)) = some 2 := rfl
@[simp] theorem len_kind : lenD (toD (.leaf (.kind n))) = some 2 := rfl
@[simp] theorem len_name : lenD (toD (.leaf (.name s))) = some 2 := rfl
@[simp] theorem len_thing : lenD (toD (.leaf (.thing s))) = some 2 := rfl
@[simp] theorem len_maker : lenD (toD (.leaf (.maker s n))) = some 3 := rfl
@[simp] theorem len_eater : lenD (toD (.leaf (.eater s n))) = some 3 := rfl
@[simp] theorem len_bin : lenD (toD (.bin b x y)) = some 3 := rfl
@[simp] theorem len_tri : lenD (toD (.tri c x y z)) = some 4 := rfl
end
@[simp] theorem toD_eq {a b : T} : (toD a = toD b) = (a = b) := propext ⟨toD_inj, fun h => h ▸ rfl⟩
@[simp] theorem toDs_eq : ∀ {a b : List T}, (a.map toD = b.map toD) = (a = b) := fun {a b} => propext ⟨fun h => (List.map_inj_right fun _ _ => toD_inj).mp h, fun h => h ▸ rfl⟩
def okName (s : Str) : Prop := 1 ≤ s.length ∧ s.length ≤ 8 ∧ s ∉ keptD ∧ ∀ c ∈ s.cps.toList, c ∈ ("abcdefghijklmnopqrstuvwxyz" : Str).cps.toList
@[simp] def Lf.ok : Lf → Prop
  | .kind h => 0 ≤ h ∧ h ≤ 5
  | .name s => okName s
  | .thing s => okName s
  | .maker s n => okName s ∧ 0 ≤ n
  | .eater s h => okName s ∧ 0 ≤ h ∧ h ≤ 5
@[simp] def T.ok : T → Prop
  | .var n => 0 ≤ n
  | .leaf l => l.ok
  | .bin b x y => x.ok ∧ y.ok
  | .tri t x y z => x.ok ∧ y.ok ∧ z.ok
@[simp] theorem eqd_n0 (d : D) (ds : List D) : eqd (.lst (d :: ds)) (.lst []) = false := by simp [eqd, py, pys, PyData.eqv, PyData.eqvAll]
@[simp] theorem eqd_00 : eqd (.lst []) (.lst []) = true := by simp [eqd, py, pys, PyData.eqv, PyData.eqvAll]
mutual
/-- data without bools -/
def cln : D → Bool
  | .non => true
  | .int _ => true
  | .str _ => true
  | .tup ds => clns ds
  | .lst ds => clns ds
  | _ => false
def clns : List D → Bool
  | [] => true
  | d :: ds => cln d && clns ds
end
mutual
theorem eqd_iff : ∀ {x y : D}, cln x = true → cln y = true → (eqd x y = true ↔ x = y)
  | .non, y, _, h => by cases y <;> simp [cln, eqd, py, PyData.eqv] at h ⊢
  | .int i, y, _, h => by cases y <;> simp [cln, eqd, py, PyData.eqv] at h ⊢
  | .str s, y, _, h => by cases y <;> simp [cln, eqd, py, PyData.eqv] at h ⊢
  | .tup ds, .tup es, h1, h2 => by
    have := eqds_iff (x := ds) (y := es) h1 h2
    simpa [eqd, py, PyData.eqv] using this
  | .lst ds, .lst es, h1, h2 => by
    have := eqds_iff (x := ds) (y := es) h1 h2
    simpa [eqd, py, PyData.eqv] using this
  | .tup ds, .non, _, _ => by simp [eqd, py, PyData.eqv]
  | .tup ds, .int _, _, _ => by simp [eqd, py, PyData.eqv]
  | .tup ds, .str _, _, _ => by simp [eqd, py, PyData.eqv]
  | .tup ds, .lst _, _, _ => by simp [eqd, py, PyData.eqv]
  | .lst ds, .non, _, _ => by simp [eqd, py, PyData.eqv]
  | .lst ds, .int _, _, _ => by simp [eqd, py, PyData.eqv]
  | .lst ds, .str _, _, _ => by simp [eqd, py, PyData.eqv]
  | .lst ds, .tup _, _, _ => by simp [eqd, py, PyData.eqv]
theorem eqds_iff : ∀ {x y : List D}, clns x = true → clns y = true → (PyData.eqvAll (pys x) (pys y) = true ↔ x = y)
  | [], [], _, _ => by simp [pys, PyData.eqvAll]
  | [], _ :: _, _, _ => by simp [pys, PyData.eqvAll]
  | _ :: _, [], _, _ => by simp [pys, PyData.eqvAll]
  | d :: ds, e :: es, h1, h2 => by
    simp only [clns, Bool.and_eq_true] at h1 h2
    have i1 := eqd_iff h1.1 h2.1
    have i2 := eqds_iff h1.2 h2.2
    simp only [pys, PyData.eqvAll, Bool.and_eq_true, List.cons.injEq]
    exact and_congr i1 i2
end
theorem clns_ints : ∀ a : List Int, clns (a.map .int) = true
  | [] => rfl
  | i :: a => by simp [clns, cln, clns_ints a]
theorem cln_spD (a : List Int) : cln (spD a) = true := by simp [spD, cln, clns_ints]
theorem dats_ints : ∀ a : List Int, dats (a.map .int) = true
  | [] => rfl
  | i :: a => by simp [dats, dat, dats_ints a]
theorem deps_ints : ∀ a : List Int, deps (a.map .int) = 0
  | [] => rfl
  | i :: a => by simp [deps, dep, deps_ints a]
@[simp] theorem dat_spD (a : List Int) : dat (spD a) = true := by simp [spD, dat, dats_ints]
@[simp] theorem dep_spD (a : List Int) : dep (spD a) = 1 := by simp [spD, dep, deps_ints]
@[simp] theorem eqd_spD (a b : List Int) : eqd (spD a) (spD b) = decide (a = b) := by
  rw [Bool.eq_iff_iff, eqd_iff (cln_spD a) (cln_spD b)]; simp
@[simp] theorem eqd_spD0 (a : List Int) : eqd (spD a) (.tup []) = decide (a = []) := eqd_spD a []
theorem eqd_dec {x y : D} (h1 : cln x = true) (h2 : cln y = true) [Decidable (x = y)] : eqd x y = decide (x = y) := by
  rw [Bool.eq_iff_iff, eqd_iff h1 h2]; simp
theorem cln_toD : ∀ t : T, cln (toD t) = true
  | .var n => rfl
  | .leaf l => by cases l <;> rfl
  | .bin b x y => by simp [toD, cln, clns, cln_toD x, cln_toD y]
  | .tri b x y z => by simp [toD, cln, clns, cln_toD x, cln_toD y, cln_toD z]
theorem eqd_toD (a b : T) : eqd (toD a) (toD b) = decide (a = b) := by
  rw [Bool.eq_iff_iff, eqd_iff (cln_toD a) (cln_toD b)]; simp
/-- how deep -/
@[simp] def T.dp : T → Nat
  | .var n => 1
  | .leaf l => 1
  | .bin b x y => max x.dp y.dp + 1
  | .tri t x y z => max x.dp (max y.dp z.dp) + 1
def T.parts : T → List T
  | .var n => []
  | .leaf l => []
  | .bin b x y => [x, y]
  | .tri t x y z => [x, y, z]
@[simp] theorem parts_var {n : Int} : (T.var n).parts = [] := rfl
@[simp] theorem parts_leaf {l : Lf} : (T.leaf l).parts = [] := rfl
@[simp] theorem parts_bin {b : Bn} {x y : T} : (T.bin b x y).parts = [x, y] := rfl
@[simp] theorem parts_tri {b : Tr} {x y z : T} : (T.tri b x y z).parts = [x, y, z] := rfl
/-- the word in front -/
def Lf.w : Lf → Str
  | .kind _ => "kind"
  | .name _ => "name"
  | .thing _ => "thing"
  | .maker _ _ => "maker"
  | .eater _ _ => "eater"
def T.w : T → Str
  | .var n => "at"
  | .leaf l => l.w
  | .bin b x y => b.s
  | .tri t x y z => t.s
theorem toD_tup (t : T) : ∃ ds, toD t = .tup (.str t.w :: ds) := by
  cases t with
  | var n => exact ⟨_, rfl⟩
  | leaf l => cases l <;> exact ⟨_, rfl⟩
  | bin b x y => exact ⟨_, rfl⟩
  | tri b x y z => exact ⟨_, rfl⟩
theorem T.dp_pos (t : T) : 1 ≤ t.dp := by cases t <;> simp
/-- as data for == -/
theorem okName_strOk {s : Str} (h : okName s) : PyData.strOk s = true := by
  unfold PyData.strOk
  have e : ∀ c ∈ ("abcdefghijklmnopqrstuvwxyz" : Str).cps.toList, c < 0x110000 := by decide +kernel
  rw [Array.all_eq_true]
  intro i hi
  exact decide_eq_true (e _ (h.2.2.2 _ (by simp)))
theorem T.dat : ∀ {t : T}, t.ok → dat (toD t) = true
  | .var n, _ => by simp only [toD, Kp.dat, dats]; decide +kernel
  | .leaf l, h => by
    cases l with
    | kind k => simp only [toD, Lf.d, Kp.dat, dats]; decide +kernel
    | name s => simp only [toD, Lf.d, Kp.dat, dats]; rw [okName_strOk h]; decide +kernel
    | thing s => simp only [toD, Lf.d, Kp.dat, dats]; rw [okName_strOk h]; decide +kernel
    | maker s n => simp only [toD, Lf.d, Kp.dat, dats]; rw [okName_strOk h.1]; decide +kernel
    | eater s n => simp only [toD, Lf.d, Kp.dat, dats]; rw [okName_strOk h.1]; decide +kernel
  | .bin b x y, h => by
    have h1 := T.dat h.1
    have h2 := T.dat h.2
    have h3 : PyData.strOk b.s = true := by cases b <;> decide +kernel
    simp [toD, Kp.dat, dats, h1, h2, h3]
  | .tri b x y z, h => by
    have h1 := T.dat h.1
    have h2 := T.dat h.2.1
    have h4 := T.dat h.2.2
    have h3 : PyData.strOk b.s = true := by cases b <;> decide +kernel
    simp [toD, Kp.dat, dats, h1, h2, h3, h4]
theorem T.depD : ∀ t : T, dep (toD t) = t.dp
  | .var n => by simp [toD, Lf.d, Kp.dep, deps]
  | .leaf l => by cases l <;> simp [toD, Lf.d, Kp.dep, deps]
  | .bin b x y => by
    have h1 := T.depD x
    have h2 := T.depD y
    simp [toD, Lf.d, Kp.dep, deps, h1, h2]
  | .tri b x y z => by
    have h1 := T.depD x
    have h2 := T.depD y
    have h3 := T.depD z
    simp [toD, Lf.d, Kp.dep, deps, h1, h2, h3]
end Kp
set_option maxRecDepth 100000
set_option maxHeartbeats 4000000
/-! Dl9: new lists from calls, tuple * int, -1, rooms -/
namespace L2
open PySem PySem.Spec PyProof.Rows
theorem tuple_mul0 (l : Addr) (items : Array Value) (n : Nat) (dd : Option Addr) (sl : Array (Option Value)) (x : Int) (u : Tok) (c0 : (decide (x < -(2 ^ 63)) || decide (x ≥ 2 ^ 63)) = false) (c1 : (items.isEmpty || x == 1) = false) (c2 : (decide (x ≤ 0) || items.isEmpty) = true) :
    Meets (Builtin.«tuple.__mul__» ⟨[.ref l, .int x u], []⟩) (fun _ R s => s.heap.get? l = some { cls := .type "tuple", dict := dd, data := .seq items n, slots := sl } ∧
      R (.ok (.ret (Value.ref s.heap.objs.size))) { s with heap := s.heap.push { cls := Value.type "tuple", data := Data.seq #[] }, toks := s.toks }) :=
  .of_wp fun prog w A R s h => by
    obtain ⟨hp, g, d, tk, os⟩ := s
    obtain ⟨hl, h⟩ := h
    have f1 := AutoSeq1.idx_int
    wp_walk using wpAny_loadPart' hl
    repeat (first
      | (refine wpAny_ite_false (decide_eq_false (by rw [c0]; exact Bool.false_ne_true)) ?_; wp_walk using wpAny_loadPart' hl)
      | (refine wpAny_ite_false (decide_eq_false (by rw [c1]; exact Bool.false_ne_true)) ?_; wp_walk using wpAny_loadPart' hl)
      | (refine wpAny_ite_true (decide_eq_true (by rw [c2])) ?_; wp_walk using wpAny_loadPart' hl))
    exact ⟨_, rfl, h⟩
def rRep0 (K : PySem.W.Frag) : R2 := fun x y H Q => ∃ l xs, x = .ref l ∧ y = .int 0 ∧ SqT K H l xs ∧ xs ≠ [] ∧ ∀ p, H p = none → Q (.ref p) (upd H p (.tup []))
section
variable {X : Cx}
theorem op_rep0 : OpR X (binaryOp .Mult) (rRep0 X.K) := by
  intro pins s σ H x y v u Q I rx ry h
  obtain ⟨l, xs, rfl, rfl, hT, hne, q⟩ := h
  cases rx
  obtain ⟨t, rfl⟩ := ry
  obtain ⟨its, r, ⟨⟨cls, dd, data, sl⟩, ho, hc, n, hd⟩, hs⟩ := I.tuple hT
  simp only at hc hd
  subst hc hd
  have hle : its.length = xs.length := r.length.symm
  have hn : its ≠ [] := fun e => hne (by
    rw [e] at hle
    exact List.eq_nil_of_length_eq_zero hle.symm)
  have hi : its.toArray.isEmpty = false := by
    cases its with
    | nil => exact absurd rfl hn
    | cons a b => rfl
  have c0 : (decide ((0 : Int) < -(2 ^ 63)) || decide ((0 : Int) ≥ 2 ^ 63)) = false := by decide
  have c1 : (its.toArray.isEmpty || (0 : Int) == 1) = false := by
    rw [hi, Bool.false_or]
    decide
  have c2 : (decide ((0 : Int) ≤ 0) || its.toArray.isEmpty) = true := by
    rw [hi, Bool.or_false]
    decide
  refine wpAny_binaryOp_repeat_ref (T := "tuple") (U := "int") (by decide) ⟨_, ho, rfl⟩ (fun s' => typeIs_int s' 0 t) noFill_tuple_mul F.fills_int_mul F.slot_int_rmul repeat_tuple F.slot_int_index.lookup
    (call_meets F.slot_int_rmul (typeIs_int s 0 t) F.entry_int_rmul (F.args_int_rmul_2 _ _) (int_rmul_tuple 0 t l its.toArray n dd sl)
      ⟨ho, rfl, ⟨_, ho, rfl⟩, call_meets F.slot_tuple_mul ⟨_, ho, rfl⟩ F.entry_tuple_mul (F.args_tuple_mul_2 _ _) (tuple_mul0 l its.toArray n dd sl 0 t c0 c1 c2) ⟨ho, ?_⟩⟩)
  refine ⟨.ref s.heap.objs.size, _, I.laid (t' := s.toks) (o := .tup []) (fun b ob q => Heap.get?_push_of_some _ q) (Nat.le_refl _) ?_, rfl, q _ (I.hok.fresh (Nat.le_refl _))⟩
  exact ⟨Nat.zero_le _, _, .nil, IsTup.new _ _⟩
theorem Room.units2 {k : Nat} {A : Around} (r : Room k A) : A.units + 1 < cLine := by have := r.un; omega
theorem Room.units1 {k : Nat} {A : Around} (r : Room k A) : A.units + 65 < cLine := by have := r.un; omega
end
end L2
namespace Kp
open PySem PySem.Spec L2
section
variable {K : PySem.W.Frag} {C : Addr}
/-- t * 0 of a tuple that is not empty; t * 2 -/
@[simp] def kRep0 : D → D → KD → Prop := fun x y Q => ∃ d ds, x = .tup (d :: ds) ∧ y = .int 0 ∧ Q (.tup [])
theorem d2_rep0 : D2 K C (rRep0 K) kRep0 where
  to := fun O H x y dx dy Q dm rx ry ⟨d, ds, e1, e2, q⟩ => by
    subst e1 e2
    obtain ⟨a, vs, rfl, h1, r1⟩ := rx.tup_iff
    refine ⟨a, vs, rfl, ry.int_iff, ex_t hide_ex h1, fun e => ?_, fun p hp => q _ _ (Ex.new hp) (new_tup dm hp .nil)⟩
    have := r1.length
    rw [e] at this; cases this
  mono := fun dx dy Q Q' q ⟨d, ds, e1, e2, z⟩ => ⟨d, ds, e1, e2, q _ z⟩
@[simp] def kRep2 : D → D → KD → Prop := fun x y Q => ∃ d, x = .tup [d] ∧ y = .int 2 ∧ Q (.tup [d, d])
theorem d2_rep2 : D2 K C (rRepT K) kRep2 where
  to := fun O H x y dx dy Q dm rx ry ⟨d, e1, e2, q⟩ => by
    subst e1 e2
    obtain ⟨a, vs, rfl, h1, r1⟩ := rx.tup_iff
    obtain ⟨v, rfl, rv⟩ := r1.one
    exact ⟨a, 2, _, rfl, ry.int_iff, ex_t hide_ex h1, (fun z => nomatch z), by decide, by decide, (by show 1 ≤ 1000; decide), fun p hp => q _ _ (Ex.new hp) (new_tup dm hp (.cons rv (.cons rv .nil)))⟩
  mono := fun dx dy Q Q' q ⟨d, e1, e2, z⟩ => ⟨d, e1, e2, q _ z⟩
end
/-! ### new lists -/
section
variable {K : PySem.W.Frag} {C : Addr} {F : Fr} {O : List Addr} {H H1 : Hp} {σ : St} {ρ : DEnv} {π π1 : Pu}
theorem RS.back (R : RS K C F O H σ ρ π) (s1 : Stp π π1 H H1) {p : Addr} (hp : H1 p = none) : H p = none := by
  cases z : H p with
  | none => rfl
  | some o =>
    cases hπ : π with
    | none =>
      have := s1.keep p o z (fun a l e => by rw [hπ] at e; cases e)
      rw [hp] at this; cases this
    | some al =>
      obtain ⟨a, l⟩ := al
      by_cases e : p = a
      · obtain ⟨l', _, e2⟩ := s1.pu a l hπ
        rw [← e, hp] at e2; cases e2
      · have := s1.keep p o z (fun a' l' e' => by rw [hπ] at e'; cases e'; exact e)
        rw [hp] at this; cases this
end
section
variable {X : Cx} {C : Addr} {a b c e : Expr} {es : List Expr} {f : DTe} {fa fb : DTa} {t : DTt} {pos : Pos}
@[simp] def dIfL (t : DTt) (f g : DTa) : DTa := fun ρ π Q => t ρ π fun c π1 => if c = true then f ρ π1 Q else g ρ π1 Q
theorem dl_if (hc : DT X C c t) (ha : DL X C a fa) (hb : DL X C b fb) : DL X C (.IfExp c a b pos) (dIfL t fa fb) where
  pe := fun F => pe_weak (pe_ifExp (hc.pt F) (ha.pe F) (hb.pe F)) fun σ H Q ⟨ρ, π, O, R, q⟩ => ⟨ρ, π, O, R, hc.mono _ _ _ _ (fun d π1 q1 H1 s1 => by
    cases d with
    | true => exact ⟨ρ, π1, O, R.step s1, ha.mono _ _ _ _ (fun d π2 q2 p vs H2 s2 hp h2 r2 => q2 p vs H2 (s1.trans s2) (R.back s1 hp) h2 r2) q1⟩
    | false => exact ⟨ρ, π1, O, R.step s1, hb.mono _ _ _ _ (fun d π2 q2 p vs H2 s2 hp h2 r2 => q2 p vs H2 (s1.trans s2) (R.back s1 hp) h2 r2) q1⟩) q⟩
  mono := fun ρ π Q Q' q h => hc.mono _ _ _ _ (fun d π1 h1 => by
    cases d with
    | true => exact ha.mono _ _ _ _ q h1
    | false => exact hb.mono _ _ _ _ q h1) h
@[simp] def dListL (f : DTa) : DTa := fun ρ π Q => f ρ π fun ds π1 => (∃ es, ds = [.tup es] ∧ Q es π1) ∨ ∃ es, ds = [.lst es] ∧ Q es π1
theorem dl_list {p : Pos} (hm : X.mg "list" = none) (ha : DA X C (e :: es) fa) (hg : Gl X "list" := by rfl) (hv : bootBuiltins "list" = some (.type "list") := by rfl)
    (he : starEach (e :: es) X.env = (false, eval e X.env) :: starEach es X.env := by rfl) (hpl : (backTo pos (starEach es X.env)).any (·.1) = false := by rfl) :
    DL X C (.Call (.Name "list" p) (e :: es) [] pos) (dListL fa) where
  pe := fun F => pe_weak (pe_callTy call_list_of hg hm hv (ha.pa F) (by decide) (by decide) he hpl) fun σ H Q ⟨ρ, π, O, R, q⟩ => ⟨ρ, π, O, R, ha.mono _ _ _ _ (fun ds π1 q1 vs H1 s1 r1 => by
    have R1 := R.step s1
    have fin : ∀ (b : Addr) (ws : List V) (es' : List D), Reps X.K C (hide O H1) ws es' → (∀ p vs H', Stp π π1 H H' → H p = none → H' p = some (.lst vs) → Reps X.K C (hide (p :: O) H') vs es' → Q (.ref p) H') → ∀ l, H1 l = none → Q (.ref l) (upd H1 l (.lst ws)) := fun b ws es' r q l hl =>
      q l ws _ (s1.trans (R1.ex_stp (Ex.new hl))) (R.back s1 hl) upd_same (r.mono fun b o hb => by
        obtain ⟨g1, g2⟩ := hide_some hb
        have ne : b ≠ l := ne_of_none g2 hl
        rw [hide_out (by simp only [List.mem_cons, not_or]; exact ⟨ne, g1⟩), upd_ne ne]
        exact g2)
    rcases q1 with ⟨es', e, q1⟩ | ⟨es', e, q1⟩
    · subst e
      obtain ⟨v, rfl, rv⟩ := r1.one
      obtain ⟨b, ws, rfl, h1, r2⟩ := rv.tup_iff
      exact ⟨b, ws, rfl, .inr (ex_t hide_ex h1), fin b ws es' r2 q1⟩
    · subst e
      obtain ⟨v, rfl, rv⟩ := r1.one
      obtain ⟨b, ws, rfl, h1, r2⟩ := rv.lst_iff
      exact ⟨b, ws, rfl, .inl (SqL.of (hide_ex _ _ h1)), fin b ws es' r2 q1⟩) q⟩
  mono := fun ρ π Q Q' q hh => ha.mono _ _ _ _ (fun ds π1 h1 => by
    rcases h1 with ⟨es, e, z⟩ | ⟨es, e, z⟩
    · exact .inl ⟨es, e, q _ _ z⟩
    · exact .inr ⟨es, e, q _ _ z⟩) hh
theorem de_neg {i : Int} {k : Nat} {p : Pos} : DE X C (.UnaryOp .USub (.Constant (.int i) k p) pos) (dC (.int (-i))) where
  pe := fun F => pe_weak (pe_un un_neg pe_int) fun σ H Q ⟨ρ, π, O, R, q⟩ => ⟨i, rfl, q _ H (R.ex_stp (Ex.refl H)) (.int _)⟩
  mono := fun ρ π Q Q' q h => q _ _ h
/-! ### defs that give a new list -/
abbrev SpecL := List D → Pu → (List D → Pu → Prop) → Prop
def SpL (K : PySem.W.Frag) (C : Addr) (sp : SpecL) : Sp := fun vs H Q _ => ∃ O π ds, Dm O H ∧ PuAt O H π ∧ Reps K C (hide O H) vs ds ∧ sp ds π fun es π' => ∀ p vs H', Stp π π' H H' → H p = none → H' p = some (.lst vs) → Reps K C (hide (p :: O) H') vs es → Q (.ref p) H'
structure FnL (P : Program) (w : World) (K : PySem.W.Frag) (mg : Str → Option Value) (base : Heap) (C : Addr) (x : Str) (k : Nat) (sp : SpecL) : Prop where
  ex : ∃ (f : Addr) (fd : FuncData) (ps : List Str), FnOk P w K mg base CX0 k f fd ps (SpL K C sp) ∧ mg x = some (.ref f) ∧ PySem.W.keepIn K (.ref f) = true ∧ Binds K fd ps []
  mono : ∀ ds π Q Q', (∀ d π', Q d π' → Q' d π') → sp ds π Q → sp ds π Q'
@[simp] def dOwnL2 (sp : SpecL) (f : DTa) : DTa := fun ρ π Q => f ρ π fun ds π1 => sp ds π1 Q
theorem de_callL {x : Str} {p : Pos} {k : Nat} {sp : SpecL} (G : FnL X.prog X.w X.K X.mg X.base C x k sp) (hr : Room k X.A) (ha : DA X C (e :: es) fa) (hg : Gl X x := by rfl) (hdb : (x == ("__debug__" : Str)) = false := by decide)
    (he : starEach (e :: es) X.env = (false, eval e X.env) :: starEach es X.env := by rfl) (hpl : (backTo pos (starEach es X.env)).any (·.1) = false := by rfl) : DL X C (.Call (.Name x p) (e :: es) [] pos) (dOwnL2 sp fa) where
  pe := fun F => by
    obtain ⟨f, fd, ps, G1, hm, hk, hb⟩ := G.ex
    refine pe_weak (pe_call G1 hr hg hm hk hb .nil pass0 (ha.pa F) hdb he hpl) fun σ H Q ⟨ρ, π, O, R, q⟩ => ?_
    refine ⟨ρ, π, O, R, ha.mono _ _ _ _ (fun ds π1 q1 vs H1 s1 r1 => ?_) q⟩
    refine ⟨O, π1, ds, (R.step s1).dom, fun a l h => let ⟨h1, h2, _⟩ := (R.step s1).pu a l h; ⟨h1, h2⟩, by rw [List.append_nil]; exact r1, G.mono _ _ _ _ (fun d π2 q2 p vs' H2 s2 hp h2 r2 => ?_) q1⟩
    exact q2 p vs' H2 (s1.trans s2) (R.back s1 hp) h2 r2
  mono := fun ρ π Q Q' q h => ha.mono _ _ _ _ (fun ds π1 h1 => G.mono _ _ _ _ q h1) h
end
def spL {α : Type} (args : α → List D) (pre : α → Prop) (res : α → List D) : SpecL := fun ds π Q => ∃ a, ds = args a ∧ pre a ∧ Q (res a) π
section
variable {P : Program} {w : World} {K : PySem.W.Frag} {mg : Str → Option Value} {base : Heap}
def retE : List Stmt → Expr
  | [.Return (some e) _] => e
  | _ => .Constant .none 0 ⟨0, 0, 0, 0⟩
theorem fn_l (Z : Tx P w K mg base) {x : Str} (i : Nat) {d : He.DefD} {N ps : List Str} {k : Nat} {α : Type} {args : α → List D} {pre : α → Prop} {res : α → List D} {fa : DTa} {pos : Pos} (hd : fn[i]? = some d) (hx : d.at_ = (x, none)) (hgl : Kp.fa[i]? = some (.glo x)) (hdf : d.dfl = []) (hbd : d.body = [.Return (some (retE d.body)) pos]) (S : FnScope N ps d.scope) (hN : ps.length ≤ N.length)
    (hbind : ∀ (kV doc pm : Value) (an : Option Addr) (cdv ct : Value) (us : List Value), us.length = ps.length → bindArgs (PySem.W.fnOf d.name d.qual d.params d.body d.scope .none kV doc pm an cdv ct) ⟨us, []⟩ = pure (ps.zip us))
    (hl : ∀ a, (args a).length = ps.length)
    (hb : ∀ (f : Addr) (cdv : Value) (A : Around) (outer : List Env) (s : Shared) (H : Hp) (E : XK), Room k (A.deeper (PyProof.Rows.envOfC d.qual d.scope s.heap.objs.size f cdv)) → DL (cxOf CX0 P w K mg base N d.qual d.scope f cdv A outer s H E).nox (GC K) (retE d.body) fa)
    (hg : ∀ a π Q, pre a → Q (res a) π → fa (d0 N.length (args a)) π Q) : FnL P w K mg base (GC K) x (k + 1) (spL args pre res) where
  ex := by
    obtain ⟨fd, F⟩ := Z.fnD i d hd
    have e1 : d.dvs K = [] := by unfold He.DefD.dvs; rw [hdf]; rfl
    rw [e1] at F
    have e2 : He.fAd K d.at_ = He.ga K x := by rw [hx]; rfl
    rw [e2] at F
    refine ⟨_, fd, ps, F.ok S (fun vs H Q E ⟨O, π, ds, dm, pa, r, a, e, _⟩ => by rw [r.length, e]; exact hl a) fun cdv A outer s H vs Q E hr ⟨O, π, ds, dm, pa, r, a, e, hp, h⟩ => ?_, Z.glo i hgl, F.kp, F.bindsN hbind⟩
    have Dd := hb (He.ga K x) cdv A outer s H E hr
    refine ⟨tRet (tL K (GC K) ⟨H, O, puA π, dm⟩ fa), ?_, ?_⟩
    · rw [hbd]
      exact (pss_one (ps_ret (Dd.pe ⟨H, O, puA π, dm⟩))).nox
    · refine ⟨d0 N.length ds, π, O, rs_start dm pa r (by rw [e, hl a]; exact hN), ?_⟩
      subst e
      exact hg a π _ hp h
  mono := fun ds π Q Q' q ⟨a, e, hp, z⟩ => ⟨a, e, hp, q _ _ z⟩
end
end Kp
namespace Kp
open PySem PySem.Spec L2
section
variable {P : Program} {w : World} {K : PySem.W.Frag} {mg : Str → Option Value} {base : Heap}
theorem Fn.up {C : Addr} {x : Str} {k j : Nat} {dds : List D} {sp : SpecD} (F : Fn P w K mg base C x k dds sp) (h : k ≤ j) : Fn P w K mg base C x j dds sp := by
  obtain ⟨f, fd, ps, ds, dvs, h1, h2⟩ := F.ex
  exact ⟨⟨f, fd, ps, ds, dvs, h1.mono h, h2⟩, F.mono⟩
theorem FnL.up {C : Addr} {x : Str} {k j : Nat} {sp : SpecL} (F : FnL P w K mg base C x k sp) (h : k ≤ j) : FnL P w K mg base C x j sp := by
  obtain ⟨f, fd, ps, h1, h2⟩ := F.ex
  exact ⟨⟨f, fd, ps, h1.mono h, h2⟩, F.mono⟩
/-- a promise that is never asked for -/
theorem fn_void (Z : Tx P w K mg base) {x : Str} (i : Nat) {d : He.DefD} {ps : List Str} {k : Nat} {sp : SpecD} (hd : fn[i]? = some d) (hx : d.at_ = (x, none)) (hgl : Kp.fa[i]? = some (.glo x)) (hdf : d.dfl = [])
    (hbind : ∀ (kV doc pm : Value) (an : Option Addr) (cdv ct : Value) (us : List Value), us.length = ps.length → bindArgs (PySem.W.fnOf d.name d.qual d.params d.body d.scope .none kV doc pm an cdv ct) ⟨us, []⟩ = pure (ps.zip us))
    (hv : ∀ ds π Q, ¬ sp ds π Q) : Fn P w K mg base (GC K) x k [] sp := by
  obtain ⟨fd, F⟩ := Z.fnD i d hd
  have e1 : d.dvs K = [] := by unfold He.DefD.dvs; rw [hdf]; rfl
  rw [e1] at F
  have e2 : He.fAd K d.at_ = He.ga K x := by rw [hx]; rfl
  rw [e2] at F
  exact ⟨⟨_, fd, ps, [], [], ⟨fun vs H Q E ⟨O, π, ds, _, _, _, h⟩ => (hv _ _ _ h).elim, fun A outer s H args us vs Q E _ _ _ _ ⟨O, π, ds, _, _, _, h⟩ => (hv _ _ _ h).elim⟩, Z.glo i hgl, F.kp, F.bindsN hbind, .nil, fun _ => .nil⟩, fun ds π Q Q' _ h => (hv _ _ _ h).elim⟩
/-- a def whose last parameter has a default that stands for e; all are written (fn_w1) | the last lacks (fn_w0) -/
theorem fn_pd (Z : Tx P w K mg base) {x : Str} (i : Nat) {d : He.DefD} {dds : List D} {N ps : List Str} {k : Nat} {α : Type} {args : α → List D} {pre : α → Prop} {res : α → D} {g : DTs} (hd : fn[i]? = some d) (hx : d.at_ = (x, none)) (hgl : Kp.fa[i]? = some (.glo x)) (S : FnScope N ps d.scope) (hN : ps.length ≤ N.length)
    (hbind : ∀ fd, FunD K d.name d.qual d.params d.body d.scope (d.dvs K) (d.kws K) (He.fAd K d.at_) fd → ∃ ds dvs, Vals dvs ds ∧ Binds K fd ps ds ∧ ∀ H, Reps K (GC K) H dvs dds)
    (hl : ∀ a, (args a).length = ps.length)
    (hb : ∀ (f : Addr) (cdv : Value) (A : Around) (outer : List Env) (s : Shared) (H : Hp) (E : XK), Room k (A.deeper (PyProof.Rows.envOfC d.qual d.scope s.heap.objs.size f cdv)) → DSs (cxOf CX0 P w K mg base N d.qual d.scope f cdv A outer s H E).nox (GC K) d.body g)
    (hg : ∀ a π, pre a → g (eqE (res a) π) (d0 N.length (args a)) π) : Fn P w K mg base (GC K) x (k + 1) dds (spF args pre res) := by
  refine fn_mk Z i hd hx hgl S hN hbind (fun ds π Q h => ?_) spF_mono (fun f cdv A outer s H E hr => (hb f cdv A outer s H E hr).upw) fun ds π Q h => ?_
  · obtain ⟨a, e, _⟩ := h
    rw [e]; exact hl a
  · obtain ⟨a, e, hp, q⟩ := h
    subst e
    refine ⟨_, hg a π hp, ⟨?_, ?_, ?_, ?_⟩⟩
    · rintro ρ' π' ⟨e1, e2⟩
      subst e2
      show Q .non (fixP π' π')
      rw [fixP_self, ← e1]; exact q
    · rintro d' π' ⟨e1, e2⟩
      subst e1 e2
      show Q (res a) (fixP π' π')
      rw [fixP_self]; exact q
    · exact fun _ _ z => z
    · exact fun _ _ z => z
theorem bind_w1 {d : He.DefD} {fd : FuncData} {x : Addr} {ps : List Str} {i : Int} (n : Nat) (hdf : d.dfl = [.int i]) (F : FunD K d.name d.qual d.params d.body d.scope (d.dvs K) (d.kws K) x fd) (hn : n = ps.length)
    (h : ∀ (T : Addr) (kV doc pm : Value) (an : Option Addr) (cdv ct : Value) (us its : List Value), us.length = n → its.length = 1 →
      ∃ k, bindArgs (PySem.W.fnOf d.name d.qual d.params d.body d.scope (.ref T) kV doc pm an cdv ct) ⟨us, []⟩ = seqItems? (.ref T) >>= k ∧ k (some its.toArray) = pure (ps.zip (us ++ its.drop 1))) :
    ∃ ds dvs, Vals dvs ds ∧ Binds K fd ps ds ∧ ∀ H, Reps K (GC K) H dvs [] := by
  have e1 : d.dvs K = [.int i] := by unfold He.DefD.dvs; rw [hdf]; rfl
  rw [e1] at F
  obtain ⟨ds, v, b⟩ := F.binds1 n 1 (by simp) (by simpa using hn) fun T kV doc pm an cdv ct us its h1 h2 => h T kV doc pm an cdv ct us its h1 h2
  exact ⟨ds, _, v, b, fun _ => .nil⟩
theorem bind_w0 {d : He.DefD} {fd : FuncData} {x : Addr} {ps : List Str} {i : Int} (n : Nat) (hdf : d.dfl = [.int i]) (F : FunD K d.name d.qual d.params d.body d.scope (d.dvs K) (d.kws K) x fd) (hn : n + 1 = ps.length)
    (h : ∀ (T : Addr) (kV doc pm : Value) (an : Option Addr) (cdv ct : Value) (us its : List Value), us.length = n → its.length = 1 →
      ∃ k, bindArgs (PySem.W.fnOf d.name d.qual d.params d.body d.scope (.ref T) kV doc pm an cdv ct) ⟨us, []⟩ = seqItems? (.ref T) >>= k ∧ k (some its.toArray) = pure (ps.zip (us ++ its.drop 0))) :
    ∃ ds dvs, Vals dvs ds ∧ Binds K fd ps ds ∧ ∀ H, Reps K (GC K) H dvs [.int i] := by
  have e1 : d.dvs K = [.int i] := by unfold He.DefD.dvs; rw [hdf]; rfl
  rw [e1] at F
  obtain ⟨ds, v, b⟩ := F.binds1 n 0 (by simp) (by simpa using hn) fun T kV doc pm an cdv ct us its h1 h2 => h T kV doc pm an cdv ct us its h1 h2
  exact ⟨ds, _, v, b, fun _ => .cons (.int i) .nil⟩
theorem fn_voidd (Z : Tx P w K mg base) {x : Str} (i : Nat) {d : He.DefD} {ps : List Str} {k : Nat} {dds : List D} {sp : SpecD} (hd : fn[i]? = some d) (hx : d.at_ = (x, none)) (hgl : Kp.fa[i]? = some (.glo x))
    (hbind : ∀ fd, FunD K d.name d.qual d.params d.body d.scope (d.dvs K) (d.kws K) (He.fAd K d.at_) fd → ∃ ds dvs, Vals dvs ds ∧ Binds K fd ps ds ∧ ∀ H, Reps K (GC K) H dvs dds)
    (hv : ∀ ds π Q, ¬ sp ds π Q) : Fn P w K mg base (GC K) x k dds sp := by
  obtain ⟨fd, F⟩ := Z.fnD i d hd
  obtain ⟨ds, dvs, h1, h2, h3⟩ := hbind fd F
  have e2 : He.fAd K d.at_ = He.ga K x := by rw [hx]; rfl
  rw [e2] at F
  exact ⟨⟨_, fd, ps, ds, dvs, ⟨fun vs H Q E ⟨O, π, ds, _, _, _, h⟩ => (hv _ _ _ h).elim, fun A outer s H args us vs Q E _ _ _ _ ⟨O, π, ds, _, _, _, h⟩ => (hv _ _ _ h).elim⟩, Z.glo i hgl, F.kp, h2, h1, h3⟩, fun ds π Q Q' _ h => (hv _ _ _ h).elim⟩
end
section
variable {X : Cx} {C : Addr} {ej : Expr} {fj : DTe} {pos : Pos}
/-- x[j] at a slot's own list -/
@[simp] def dIxO (fj : DTe) (i : Nat) : DTe := fun ρ π Q => ∃ ds, ρ[i]? = some (Sl.ow ds) ∧ fj ρ π fun j π1 => ∃ n d, j = .int n ∧ atI ds n = some d ∧ Q d π1
theorem de_ixO (i : Nat) {x : Str} {p1 : Pos} (hj : DE X C ej fj) (hN : X.N[i]? = some x := by rfl) (hv : Vis X.env.scope x := by first | exact Or.inl rfl | exact Or.inr (Or.inl rfl) | exact Or.inr (Or.inr rfl)) (hd : (x == ("__debug__" : Str)) = false := by decide)
    (hcd : (x == ("__classdict__" : Str)) = false := by decide) (hs : PlainIx ej := by exact fun _ _ => rfl) : DE X C (.Subscript (.Name x p1) ej pos) (dIxO fj i) where
  pe := fun F => pe_weak (pe_ix ix_list (pe_var hN hv hd hcd) (hj.pe F) hs) fun σ H Q ⟨ρ, π, O, R, ds, h1, q⟩ => by
    obtain ⟨p, vs, g1, g2, g3, g4, g5, g6⟩ := R.ow i ds h1
    refine ⟨_, g1, ρ, π, O, R, hj.mono _ _ _ _ (fun j π1 ⟨n, d, e1, e2, q1⟩ w H1 s1 r1 => ?_) q⟩
    subst e1
    rw [r1.int_iff]
    have g4' := s1.keep p _ g4 g6
    obtain ⟨v, a1, a2⟩ := atI_rep (g5.mono (R.hide_stp s1)) e2
    exact ⟨p, vs, n, v, rfl, rfl, SqL.of g4', a1, q1 v H1 s1 a2⟩
  mono := fun ρ π Q Q' q ⟨ds, h1, z⟩ => ⟨ds, h1, hj.mono _ _ _ _ (fun j π1 ⟨n, d, e1, e2, w⟩ => ⟨n, d, e1, e2, q _ _ w⟩) z⟩
end
end Kp
set_option maxRecDepth 100000
set_option maxHeartbeats 4000000
/-! Dl10: grounds: their methods, what is kept by name -/
namespace Kp
open PySem PySem.Spec L2
def rowAt (ns : List Str) (rs : List D) (s : Str) : Option D := (ns.zip rs).lookup s
theorem gnd_get {K : PySem.W.Frag} {C : Addr} {H : Hp} {s : Str} : ∀ {kvs : List (Key × V)} {ns : List Str} {rs : List D}, kvs.map (·.1) = ns.map Sum.inr → Reps K C H (kvs.map (·.2)) rs →
    (rowAt ns rs s = none → valV kvs (.inr s) = none) ∧ ∀ d, rowAt ns rs s = some d → ∃ v, valV kvs (.inr s) = some v ∧ Rep K C H v d
  | [], [], _, _, r => by
    cases r
    exact ⟨fun _ => rfl, fun d h => by cases h⟩
  | (k, v) :: kvs, n :: ns, rs, e, r => by
    simp only [List.map_cons, List.cons.injEq] at e
    obtain ⟨e1, e2⟩ := e
    subst e1
    cases r with
    | cons h r =>
      rename_i d ds
      have ih := gnd_get (s := s) e2 r
      by_cases q : s = n
      · subst q
        have e3 : rowAt (s :: ns) (d :: ds) s = some d := by simp [rowAt]
        have e4 : valV ((Sum.inr s, v) :: kvs) (.inr s) = some v := by simp [valV]
        rw [e3, e4]
        exact ⟨fun z => (nomatch z), fun d' z => by cases z; exact ⟨v, rfl, h⟩⟩
      · have e3 : rowAt (n :: ns) (d :: ds) s = rowAt ns ds s := by
          have : (s == n) = false := by simpa using q
          simp [rowAt, List.lookup_cons, this]
        have e4 : valV ((Sum.inr n, v) :: kvs) (.inr s) = valV kvs (.inr s) := by
          have : ¬ n = s := fun z => q z.symm
          simp [valV, this]
        rw [e3, e4]
        exact ih
section
variable {X : Cx} {e : Expr} {f : DTe} {pos : Pos}
theorem pe_by {te : TE} {i : Nat} {x : Str} {p q : Pos} (Z : Tx X.prog X.w X.K X.mg X.base) (hN : X.N[i]? = some x) (hv : Vis X.env.scope x) (hd : (x == ("__debug__" : Str)) = false) (hcd : (x == ("__classdict__" : Str)) = false)
    (hb : attributeBase (.Name x p) "kept_by" X.env (eval (.Name x p) X.env) = eval (.Name x p) X.env) : PE X (.Attribute (.Name x p) "kept_by" q) (tFld X.K (tVar i) "kept_by") := pe_fld (pe_var hN hv hd hcd) hb
@[simp] def dInBy (f : DTe) (i : Nat) : DTe := fun ρ π Q => ∃ ns rs, ρ[i]? = some (Sl.pu (.gnd ns rs)) ∧ f ρ π fun d π1 => ∃ s, d = .str s ∧ Q (.bl (rowAt ns rs s).isSome) π1
theorem de_inBy (i : Nat) {x : Str} {p q : Pos} {P : Program} {w : World} {K : PySem.W.Frag} {mg : Str → Option Value} {base : Heap} (Z : Tx P w K mg base) (hK : X.K = K) (hu : X.A.units + 1 < cLine) (he : DE X (GC K) e f) (hN : X.N[i]? = some x := by rfl) (hv : Vis X.env.scope x := by first | exact Or.inl rfl | exact Or.inr (Or.inl rfl) | exact Or.inr (Or.inr rfl)) (hd : (x == ("__debug__" : Str)) = false := by decide)
    (hcd : (x == ("__classdict__" : Str)) = false := by decide) (hb : attributeBase (.Name x p) "kept_by" X.env (eval (.Name x p) X.env) = eval (.Name x p) X.env := by rfl) (h1 : behindInMarks .In (.Attribute (.Name x p) "kept_by" q) = false := by rfl) :
    DE X (GC K) (.Compare e [.In] [.Attribute (.Name x p) "kept_by" q] pos) (dInBy f i) where
  pe := fun F => pe_weak (pe_cmp (pc_din hu (he.pe F) (pe_fld (pe_var hN hv hd hcd) hb)) h1) fun σ H Q ⟨ρ, π, O, R, ns, rs, h1, q⟩ => by
    subst hK
    refine ⟨ρ, π, O, R, he.mono _ _ _ _ (fun d π1 ⟨s, e1, q1⟩ v H1 s1 r1 => ?_) q⟩
    subst e1
    have R1 := R.step s1
    obtain ⟨u, g1, g2⟩ := R1.sl i _ h1
    cases g2 with
    | gnd k1 k2 k3 k4 k5 k6 k7 =>
      rename_i a dx d fs kvs
      refine ⟨_, g1, a, _, dx, fs, .ref d, rfl, hide_ex _ _ k1, Z.cls, Z.no_by, k2, d, _, rfl, by rw [r1.str_iff]; exact DGet.k (k := .inr s) (hide_ex _ _ k5), ?_⟩
      have hg := gnd_get (s := s) k6 k7
      have e2 : (valV kvs (.inr s)).isSome = (rowAt ns rs s).isSome := by
        cases z : rowAt ns rs s with
        | none => rw [hg.1 z] <;> rfl
        | some d' =>
          obtain ⟨v', z1, _⟩ := hg.2 d' z
          rw [z1]; rfl
      rw [e2]
      exact q1 _ H1 s1 (.bl _)
  mono := fun ρ π Q Q' q ⟨ns, rs, h1, z⟩ => ⟨ns, rs, h1, he.mono _ _ _ _ (fun d π1 ⟨s, e, w⟩ => ⟨s, e, q _ _ w⟩) z⟩
@[simp] def dGetBy (f : DTe) (i : Nat) : DTe := fun ρ π Q => ∃ ns rs, ρ[i]? = some (Sl.pu (.gnd ns rs)) ∧ f ρ π fun d π1 => ∃ s r, d = .str s ∧ rowAt ns rs s = some r ∧ Q r π1
theorem de_getBy (i : Nat) {x : Str} {p q : Pos} {P : Program} {w : World} {K : PySem.W.Frag} {mg : Str → Option Value} {base : Heap} (Z : Tx P w K mg base) (hK : X.K = K) (hu : X.A.units + 1 < cLine) (he : DE X (GC K) e f) (hN : X.N[i]? = some x := by rfl) (hv : Vis X.env.scope x := by first | exact Or.inl rfl | exact Or.inr (Or.inl rfl) | exact Or.inr (Or.inr rfl)) (hd : (x == ("__debug__" : Str)) = false := by decide)
    (hcd : (x == ("__classdict__" : Str)) = false := by decide) (hb : attributeBase (.Name x p) "kept_by" X.env (eval (.Name x p) X.env) = eval (.Name x p) X.env := by rfl) (hs : NoSl e := by exact fun _ _ => rfl) :
    DE X (GC K) (.Subscript (.Attribute (.Name x p) "kept_by" q) e pos) (dGetBy f i) where
  pe := fun F => pe_weak (pe_dget hu (pe_fld (pe_var hN hv hd hcd) hb) (he.pe F) hs) fun σ H Q ⟨ρ, π, O, R, ns, rs, h1, q⟩ => by
    subst hK
    obtain ⟨u, g1, g2⟩ := R.sl i _ h1
    cases g2 with
    | gnd k1 k2 k3 k4 k5 k6 k7 =>
      rename_i a dx d fs kvs
      refine ⟨_, g1, a, _, dx, fs, .ref d, rfl, hide_ex _ _ k1, Z.cls, Z.no_by, k2, ρ, π, O, R, he.mono _ _ _ _ (fun d' π1 ⟨s, r, e1, e2, q1⟩ v H1 s1 r1 => ?_) q⟩
      subst e1
      have ex := R.hide_stp s1
      obtain ⟨v', z1, z2⟩ := (gnd_get (s := s) k6 (k7.mono ex)).2 r e2
      refine ⟨d, v', rfl, ?_, q1 _ H1 s1 z2⟩
      rw [r1.str_iff]
      have := DGet.k (k := .inr s) (hide_ex _ _ (ex _ _ k5))
      rw [z1] at this
      exact this
  mono := fun ρ π Q Q' q ⟨ns, rs, h1, z⟩ => ⟨ns, rs, h1, he.mono _ _ _ _ (fun d π1 ⟨s, r, e, e2, w⟩ => ⟨s, r, e, e2, q _ _ w⟩) z⟩
end
/-! ### methods -/
structure FnM (P : Program) (w : World) (K : PySem.W.Frag) (mg : Str → Option Value) (base : Heap) (m : Str) (k : Nat) (sp : SpecD) : Prop where
  ex : ∃ (fd : FuncData) (ps : List Str), FnOk P w K mg base CX0 k (He.ma K (GC K) m) fd ps (SpD K (GC K) sp) ∧ Binds K fd ps [] ∧ Meth K (GC K) m (He.ma K (GC K) m)
  mono : ∀ ds π Q Q', (∀ d π', Q d π' → Q' d π') → sp ds π Q → sp ds π Q'
@[simp] def dMeth (sp : SpecD) (f : DTe) (fa : DTa) : DTe := fun ρ π Q => f ρ π fun d π1 => ∃ ns rs, d = .gnd ns rs ∧ fa ρ π1 fun ds π2 => sp (d :: ds) π2 Q
theorem de_meth {X : Cx} {o e : Expr} {es : List Expr} {f : DTe} {fa : DTa} {pos apos : Pos} {m : Str} {k : Nat} {sp : SpecD} {pl : Sem Bool} {P : Program} {w : World} {K : PySem.W.Frag} {mg : Str → Option Value} {base : Heap} (Z : Tx P w K mg base) (G : FnM X.prog X.w X.K X.mg X.base m k sp) (hK : X.K = K) (hr : Room k X.A) (hm : m = "has" ∨ m = "told") (ho : DE X (GC K) o f) (ha : DA X (GC K) (e :: es) fa)
    (hst : starEach (e :: es) X.env = (false, eval e X.env) :: starEach es X.env := by rfl) (hpl : (backTo pos (starEach es X.env)).any (·.1) = false := by rfl)
    (ht : eval (.Call (.Attribute o m apos) (e :: es) [] pos) X.env = (do
      let ov ← eval o X.env
      standAt apos.atName
      let (f, first) ← holding [ov] (getMethod ov m pl)
      callWith pos f first (backTo pos (starEach (e :: es) X.env)) (backToKw pos (keywordEach [] X.env))) := by rfl) :
    DE X (GC K) (.Call (.Attribute o m apos) (e :: es) [] pos) (dMeth sp f fa) where
  pe := fun F => by
    subst hK
    obtain ⟨fd, ps, G1, hb, hme⟩ := G.ex
    refine pe_weak (pe_meth (pl := pl) (ho.pe F) Z.cls hme G1 hr hb .nil pass0 (ha.pa F) hst hpl ht) fun σ H Q ⟨ρ, π, O, R, q⟩ => ?_
    refine ⟨ρ, π, O, R, ho.mono _ _ _ _ (fun d π1 ⟨ns, rs, e1, q1⟩ v H1 s1 r1 => ?_) q⟩
    subst e1
    cases r1 with
    | gnd k1 k2 k3 k4 k5 k6 k7 =>
      rename_i a dx d fs kvs
      refine ⟨a, dx, fs, rfl, hide_ex _ _ k1, ?_, ρ, π1, O, R.step s1, ha.mono _ _ _ _ (fun ds π2 q2 vs H2 s2 r2 => ?_) q1⟩
      · rcases hm with h | h <;> subst h
        · exact k3
        · exact k4
      · have ex := (R.step s1).hide_stp s2
        have R2 := (R.step s1).step s2
        refine ⟨O, π2, .gnd ns rs :: ds, R2.dom, fun b l h => let ⟨h1, h2, _⟩ := R2.pu b l h; ⟨h1, h2⟩, by rw [List.append_nil]; exact .cons (.gnd (ex _ _ k1) k2 k3 k4 (ex _ _ k5) k6 (k7.mono ex)) r2, G.mono _ _ _ _ (fun d' π3 q3 v' H3 s3 r3 => ?_) q2⟩
        exact q3 v' H3 ((s1.trans s2).trans s3) r3
  mono := fun ρ π Q Q' q h => ho.mono _ _ _ _ (fun d π1 ⟨ns, rs, e, z⟩ => ⟨ns, rs, e, ha.mono _ _ _ _ (fun ds π2 z2 => G.mono _ _ _ _ q z2) z⟩) h
section
variable {P : Program} {w : World} {K : PySem.W.Frag} {mg : Str → Option Value} {base : Heap}
theorem fn_me (Z : Tx P w K mg base) {m : Str} (i : Nat) {d : He.DefD} {N ps : List Str} {k : Nat} {α : Type} {args : α → List D} {pre : α → Prop} {res : α → D} {g : DTs} (hd : fn[i]? = some d) (hx : d.at_ = (("Ground" : Str), some m)) (hdf : d.dfl = []) (hme : Meth K (GC K) m (He.ma K (GC K) m)) (S : FnScope N ps d.scope) (hN : ps.length ≤ N.length)
    (hbind : ∀ (kV doc pm : Value) (an : Option Addr) (cdv ct : Value) (us : List Value), us.length = ps.length → bindArgs (PySem.W.fnOf d.name d.qual d.params d.body d.scope .none kV doc pm an cdv ct) ⟨us, []⟩ = pure (ps.zip us))
    (hl : ∀ a, (args a).length = ps.length)
    (hb : ∀ (f : Addr) (cdv : Value) (A : Around) (outer : List Env) (s : Shared) (H : Hp) (E : XK), Room k (A.deeper (PyProof.Rows.envOfC d.qual d.scope s.heap.objs.size f cdv)) → DSs (cxOf CX0 P w K mg base N d.qual d.scope f cdv A outer s H E).nox (GC K) d.body g)
    (hg : ∀ a π, pre a → g (eqE (res a) π) (d0 N.length (args a)) π) : FnM P w K mg base m (k + 1) (spF args pre res) where
  ex := by
    obtain ⟨fd, F⟩ := Z.fnD i d hd
    have e1 : d.dvs K = [] := by unfold He.DefD.dvs; rw [hdf]; rfl
    rw [e1] at F
    have e : He.fAd K d.at_ = He.ma K (GC K) m := by rw [hx]; rfl
    rw [e] at F
    refine ⟨fd, ps, fn_d F S (fun ds π Q ⟨a, e, _⟩ => by rw [e]; exact hl a) hN (fun cdv A outer s H E hr => (hb _ cdv A outer s H E hr).upw) fun ds π Q ⟨a, e, hp, q⟩ => ?_, F.bindsN hbind, hme⟩
    subst e
    refine ⟨_, hg a π hp, ⟨?_, ?_, ?_, ?_⟩⟩
    · rintro ρ' π' ⟨e1, e2⟩
      subst e2
      show Q .non (fixP π' π')
      rw [fixP_self, ← e1]; exact q
    · rintro d' π' ⟨e1, e2⟩
      subst e1 e2
      show Q (res a) (fixP π' π')
      rw [fixP_self]; exact q
    · exact fun _ _ z => z
    · exact fun _ _ z => z
  mono := spF_mono
end
end Kp
set_option maxRecDepth 100000
set_option maxHeartbeats 4000000
/-! Dl11: a def called through a local name -/
namespace Kp
open PySem PySem.Spec L2
structure HeldD (P : Program) (w : World) (K : PySem.W.Frag) (mg : Str → Option Value) (base : Heap) (C : Addr) (k : Nat) (a : Addr) (sp : SpecD) : Prop where
  ex : ∃ (fd : FuncData) (ps : List Str), FnOk P w K mg base CX0 k a fd ps (SpD K C sp) ∧ PySem.W.keepIn K (.ref a) = true ∧ Binds K fd ps []
  mono : ∀ ds π Q Q', (∀ d π', Q d π' → Q' d π') → sp ds π Q → sp ds π Q'
theorem Fn.held {P : Program} {w : World} {K : PySem.W.Frag} {mg : Str → Option Value} {base : Heap} {C : Addr} {x : Str} {k : Nat} {sp : SpecD} (F : Fn P w K mg base C x k [] sp) (hm : mg x = some (.ref (He.ga K x))) : HeldD P w K mg base C k (He.ga K x) sp := by
  obtain ⟨f, fd, ps, ds, dvs, h1, h2, h3, h4, h5, h6⟩ := F.ex
  rw [hm] at h2
  cases h2
  have e : dvs = [] := by
    have := (h6 (fun _ => none)).length
    exact List.eq_nil_of_length_eq_zero this
  subst e
  cases h5
  exact ⟨⟨fd, ps, h1, h3, h4⟩, F.mono⟩
@[simp] def dCallV (S : Addr → SpecD → Prop) (i : Nat) (fa : DTa) : DTe := fun ρ π Q => ∃ a sp, ρ[i]? = some (Sl.pu (.adr a)) ∧ S a sp ∧ fa ρ π fun ds π1 => sp ds π1 Q
theorem de_callV (i : Nat) {X : Cx} {C : Addr} {x : Str} {p pos : Pos} {k : Nat} {e : Expr} {es : List Expr} {fa : DTa} {P : Program} {w : World} {K : PySem.W.Frag} {mg : Str → Option Value} {base : Heap} (hP : X.prog = P) (hw : X.w = w) (hK : X.K = K) (hmg : X.mg = mg) (hb0 : X.base = base) (hr : Room k X.A) (ha : DA X C (e :: es) fa)
    (hN : X.N[i]? = some x := by rfl) (hv : Vis X.env.scope x := by first | exact Or.inl rfl | exact Or.inr (Or.inl rfl) | exact Or.inr (Or.inr rfl)) (hdb : (x == ("__debug__" : Str)) = false := by decide) (hcd : (x == ("__classdict__" : Str)) = false := by decide)
    (he : starEach (e :: es) X.env = (false, eval e X.env) :: starEach es X.env := by rfl) (hpl : (backTo pos (starEach es X.env)).any (·.1) = false := by rfl) : DE X C (.Call (.Name x p) (e :: es) [] pos) (dCallV (HeldD P w K mg base C k) i fa) where
  pe := fun F => ⟨fun pins s σ H Q I ⟨ρ, π, O, R, a, sp, h1, h2, q⟩ => by
    subst hP hw hK hmg hb0
    obtain ⟨fd, ps, G1, hk, hb⟩ := h2.ex
    obtain ⟨v, e1, r⟩ := R.sl i _ h1
    cases r
    refine (pe_callL (i := i) (dvs := []) (ds := []) G1 hr hN hv hk hb .nil pass0 (ha.pa F) hdb hcd he hpl).run pins s σ H Q I ⟨e1, ρ, π, O, R, ha.mono _ _ _ _ (fun ds π1 q1 vs H1 s1 r1 => ?_) q⟩
    refine ⟨O, π1, ds, (R.step s1).dom, fun b l h => let ⟨h1, h2, _⟩ := (R.step s1).pu b l h; ⟨h1, h2⟩, by rw [List.append_nil]; exact r1, h2.mono _ _ _ _ (fun d π2 q2 v H2 s2 r2 => ?_) q1⟩
    exact q2 v H2 (s1.trans s2) r2⟩
  mono := fun ρ π Q Q' q ⟨a, sp, h1, h2, z⟩ => ⟨a, sp, h1, h2, ha.mono _ _ _ _ (fun ds π1 z1 => h2.mono _ _ _ _ q z1) z⟩
end Kp
set_option maxRecDepth 100000
set_option maxHeartbeats 2000000
/-! Ex: the readings, step by step, from the head -/
namespace Kp
open PySem PySem.Spec L2
section
variable {A : DEnds} {ρ : DEnv} {π : Pu} {g h : DTs} {f f2 f3 : DTe} {fa : DTa} {t u : DTt} {Q : D → Pu → Prop} {QL : List D → Pu → Prop} {QB : Bool → Pu → Prop} {QO : Option Int → Pu → Prop} {T : Tgt} {i : Nat} {d : D}
/-! statements -/
theorem x_seq (q : g { A with nx := h A } ρ π) : dSeq g h A ρ π := q
theorem x_next (q : A.nx ρ π) : dNext A ρ π := q
theorem x_ert {d d' : D} {π π' : Pu} (q : d' = d ∧ π' = π) : DEnds.rt (eqE d π) d' π' := q
theorem x_enx {d : D} {π π' : Pu} {ρ : DEnv} (q : d = .non ∧ π' = π) : DEnds.nx (eqE d π) ρ π' := q
theorem x_ret (q : f ρ π A.rt) : dRet f A ρ π := q
theorem x_drop (q : f ρ π fun _ π1 => A.nx ρ π1) : dDrop f A ρ π := q
theorem x_asg (q : f ρ π fun d π1 => stD T d ρ fun ρ' => A.nx ρ' π1) : dAsg f T A ρ π := q
theorem x_one {Q : DEnv → Prop} (q : Q (ρ.set i (.pu d))) : stD (.one i) d ρ Q := q
theorem x_many {Q : DEnv → Prop} {is : List Nat} {ds : List D} (l : ds.length = is.length) (q : Q (setsD ρ is ds)) : stD (.many is) (.tup ds) ρ Q := ⟨ds, rfl, l, q⟩
theorem x_manyL {Q : DEnv → Prop} {is : List Nat} {ds : List D} (l : ds.length = is.length) (q : Q (setsD ρ is ds)) : stD (.manyL is) (.lst ds) ρ Q := ⟨ds, rfl, l, q⟩
theorem x_par {i j : Nat} (q : fa ρ π fun ds π1 => ∃ d e, ds = [d, e] ∧ A.nx ((ρ.set i (.pu d)).set j (.pu e)) π1) : dPar i j fa A ρ π := q
theorem x_ifS (q : t ρ π fun c π1 => if c = true then g A ρ π1 else h A ρ π1) : dIfS t g h A ρ π := q
theorem x_for {wi : DTa} (q : wi ρ π fun ds π1 => foD T g A ds ρ π1) : dFor wi T g A ρ π := q
theorem x_fo0 (q : A.nx ρ π) : foD T g A [] ρ π := q
theorem x_fo1 {r : List D} (q : stD T d ρ fun ρ' => g { A with nx := foD T g A r, ct := foD T g A r, bk := A.nx } ρ' π) : foD T g A (d :: r) ρ π := q
theorem x_own (q : fa ρ π fun ds π1 => A.nx (ρ.set i (.ow ds)) π1) : dOwnL fa i A ρ π := q
theorem x_setL (q : fa ρ π fun ds π1 => A.nx (ρ.set i (.pu (.lst ds))) π1) : dSetL fa i A ρ π := q
theorem x_app {ds : List D} (e : ρ[i]? = some (Sl.ow ds)) (l : ds.length < 1000000) (q : f ρ π fun d π1 => A.nx (ρ.set i (.ow (ds ++ [d]))) π1) : dApp f i A ρ π := ⟨ds, e, l, q⟩
theorem x_ext {ds : List D} (e : ρ[i]? = some (Sl.ow ds)) (q : f ρ π fun d π1 => ∃ es, d = .lst es ∧ ds.length + es.length ≤ 1000000 ∧ A.nx (ρ.set i (.ow (ds ++ es))) π1) : dExt f i A ρ π := ⟨ds, e, q⟩
/-! choices -/
theorem x_if_t {c : Bool} {X Y : Prop} (e : c = true) (q : X) : (if c = true then X else Y) := by rw [if_pos e]; exact q
theorem x_if_f {c : Bool} {X Y : Prop} (e : c = false) (q : Y) : (if c = true then X else Y) := by rw [if_neg (by rw [e]; exact Bool.false_ne_true)]; exact q
/-! expressions -/
theorem x_var (e : ρ[i]? = some (Sl.pu d)) (q : Q d π) : dVar i ρ π Q := ⟨d, e, q⟩
theorem x_c (q : Q d π) : dC d ρ π Q := q
theorem x_nil (q : QL [] π) : dNil ρ π QL := q
theorem x_cons (q : f ρ π fun d π1 => fa ρ π1 fun ds π2 => QL (d :: ds) π2) : dCons f fa ρ π QL := q
theorem x_tup (q : fa ρ π fun ds π1 => ds.length ≤ 100 ∧ Q (.tup ds) π1) : dTup fa ρ π Q := q
theorem x_lst (q : fa ρ π fun ds π1 => ds.length ≤ 100 ∧ Q (.lst ds) π1) : dLst fa ρ π Q := q
theorem x_few {n : Nat} {X : Prop} (l : n ≤ 100) (q : X) : n ≤ 100 ∧ X := ⟨l, q⟩
theorem x_bin {k : D → D → KD → Prop} (q : f ρ π fun x π1 => f2 ρ π1 fun y π2 => k x y fun d => Q d π2) : dBin k f f2 ρ π Q := q
theorem x_tst (q : f ρ π fun d π1 => ∃ b, d = .bl b ∧ QB b π1) : dTst f ρ π QB := q
theorem x_exb {c : Bool} {P : Bool → Prop} (q : P c) : ∃ b, D.bl c = .bl b ∧ P b := ⟨c, rfl, q⟩
theorem x_exi {c : Int} {P : Int → Prop} (q : P c) : ∃ b, D.int c = .int b ∧ P b := ⟨c, rfl, q⟩
theorem x_exs {c : Str} {P : Str → Prop} (q : P c) : ∃ b, D.str c = .str b ∧ P b := ⟨c, rfl, q⟩
theorem x_exl {c : List D} {P : List D → Prop} (q : P c) : ∃ b, D.lst c = .lst b ∧ P b := ⟨c, rfl, q⟩
theorem x_ext2 {c : List D} {P : List D → Prop} (q : P c) : ∃ b, D.tup c = .tup b ∧ P b := ⟨c, rfl, q⟩
theorem x_1l {c : List D} {P : List D → Prop} (q : P c) : ∃ b, [D.lst c] = [.lst b] ∧ P b := ⟨c, rfl, q⟩
theorem x_1t {c : List D} {P : List D → Prop} (q : P c) : ∃ b, [D.tup c] = [.tup b] ∧ P b := ⟨c, rfl, q⟩
theorem x_1i {c : Int} {P : Int → Prop} (q : P c) : ∃ b, [D.int c] = [.int b] ∧ P b := ⟨c, rfl, q⟩
theorem x_2i {c d : Int} {P : Int → Int → Prop} (q : P c d) : ∃ a b, [D.int c, D.int d] = [.int a, .int b] ∧ P a b := ⟨c, d, rfl, q⟩
theorem x_ex1 {a : D} {P : D → Prop} (q : P a) : ∃ d, [a] = [d] ∧ P d := ⟨a, rfl, q⟩
theorem x_ex2 {a b : D} {P : D → D → Prop} (q : P a b) : ∃ d e, [a, b] = [d, e] ∧ P d e := ⟨a, b, rfl, q⟩
theorem x_and (q : t ρ π fun c π1 => if c = true then u ρ π1 QB else QB false π1) : dAnd t u ρ π QB := q
theorem x_or (q : t ρ π fun c π1 => if c = true then QB true π1 else u ρ π1 QB) : dOr t u ρ π QB := q
theorem x_not (q : t ρ π fun c π1 => QB (!c) π1) : dNot t ρ π QB := q
theorem x_if (q : t ρ π fun c π1 => if c = true then f ρ π1 Q else f2 ρ π1 Q) : dIf t f f2 ρ π Q := q
theorem x_ifL {fb : DTa} (q : t ρ π fun c π1 => if c = true then fa ρ π1 QL else fb ρ π1 QL) : dIfL t fa fb ρ π QL := q
theorem x_andV (q : f ρ π fun d π1 => ∃ c, d = .bl c ∧ if c = true then f2 ρ π1 Q else Q (.bl false) π1) : dAndV f f2 ρ π Q := q
theorem x_orV (q : f ρ π fun d π1 => ∃ c, d = .bl c ∧ if c = true then Q (.bl true) π1 else f2 ρ π1 Q) : dOrV f f2 ρ π Q := q
theorem x_notV (q : f ρ π fun d π1 => ∃ c, d = .bl c ∧ Q (.bl (!c)) π1) : dNotV f ρ π Q := q
theorem x_isi2 {s t : Tn} (q : f ρ π fun d π1 => (tyS d).isSome = true ∧ Q (.bl (isA d s || isA d t)) π1) : dIsi2 s t f ρ π Q := q
theorem x_call {k : List D → KD → Prop} (q : fa ρ π fun ds π1 => k ds fun d => Q d π1) : dCall k fa ρ π Q := q
theorem x_nop (q : QO none π) : dNoP ρ π QO := q
theorem x_part (q : f ρ π fun d π1 => ∃ i, d = .int i ∧ QO (some i) π1) : dPart f ρ π QO := q
theorem x_sl {fl fu : DTo} (q : f ρ π fun x π1 => fl ρ π1 fun l π2 => fu ρ π2 fun u π3 => kSl x l u fun d => Q d π3) : dSl f fl fu ρ π Q := q
theorem x_ownF {sp : SpecD} {dds : List D} (q : fa ρ π fun ds π1 => sp (ds ++ dds) π1 Q) : dOwn sp dds fa ρ π Q := q
theorem x_ownL {sp : SpecL} (q : fa ρ π fun ds π1 => sp ds π1 QL) : dOwnL2 sp fa ρ π QL := q
theorem x_asL (q : fa ρ π fun ds π1 => Q (.lst ds) π1) : dAsL fa ρ π Q := q
theorem x_lstL (q : fa ρ π fun ds π1 => ds.length ≤ 100 ∧ QL ds π1) : (fun (ρ : DEnv) (π : Pu) (Q : List D → Pu → Prop) => fa ρ π fun ds π1 => ds.length ≤ 100 ∧ Q ds π1) ρ π QL := q
theorem x_lc {wi : DTa} {vs : List Nat} (q : wi ρ π fun ds π1 => lcD T f (wipeD ρ vs) ds [] π1 QL) : dLc wi T f vs ρ π QL := q
theorem x_seL (q : f ρ π fun d π1 => ∃ ds, d = .lst ds ∧ QL ds π1) : dSeqL f ρ π QL := q
theorem x_seT (q : f ρ π fun d π1 => ∃ ds, d = .tup ds ∧ QL ds π1) : dSeqT f ρ π QL := q
theorem x_enL (q : fa ρ π fun ds π1 => ∃ es, ds = [.lst es] ∧ QL (enumD 0 es) π1) : dEnL fa ρ π QL := q
theorem x_enT (q : fa ρ π fun ds π1 => ∃ es, ds = [.tup es] ∧ QL (enumD 0 es) π1) : dEnT fa ρ π QL := q
theorem x_rng1 (q : fa ρ π fun ds π1 => ∃ j : Int, ds = [.int j] ∧ -(2 ^ 62) ≤ j ∧ j < 2 ^ 62 ∧ QL (rngD 0 j.toNat) π1) : dRng1 fa ρ π QL := q
theorem x_rng2 (q : fa ρ π fun ds π1 => ∃ i j : Int, ds = [.int i, .int j] ∧ (-(2 ^ 62) ≤ i ∧ i < 2 ^ 62 ∧ -(2 ^ 62) ≤ j ∧ j < 2 ^ 62) ∧ QL (rngD i (j - i).toNat) π1) : dRng2 fa ρ π QL := q
theorem x_lenO {ds : List D} (e : ρ[i]? = some (Sl.ow ds)) (l : ds.length ≤ 1000000) (q : Q (.int (ds.length : Nat)) π) : dLenO i ρ π Q := ⟨ds, e, l, q⟩
theorem x_pix {a : Addr} {l : List Int} {j z : Int} (e : ρ[i]? = some (Sl.pu (.adr a))) (hz : atI l j = some z) (q : Q (.int z) (some (a, l))) : dPix i j ρ (some (a, l)) Q := ⟨a, l, z, e, rfl, hz, q⟩
theorem x_pset {j : Int} (q : f ρ π fun d π1 => ∃ a l z m, ρ[i]? = some (Sl.pu (.adr a)) ∧ π1 = some (a, l) ∧ d = .int z ∧ ixN l.length j = some m ∧ A.nx ρ (some (a, l.set m z))) : dPset f i j A ρ π := q
theorem x_meth {sp : SpecD} (q : f ρ π fun d π1 => ∃ ns rs, d = .gnd ns rs ∧ fa ρ π1 fun ds π2 => sp (d :: ds) π2 Q) : dMeth sp f fa ρ π Q := q
theorem x_gnd {ns : List Str} {rs : List D} {P : List Str → List D → Prop} (q : P ns rs) : ∃ a b, D.gnd ns rs = .gnd a b ∧ P a b := ⟨ns, rs, rfl, q⟩
end
section
variable {Q : KD} {i j : Int} {s s2 : Str} {ds es : List D} {d x y : D} {b : Bool}
/-! operators, built-in calls -/
theorem x_I0 {g : Int → Int → D} (q : Q (g i j)) : kI0 g (.int i) (.int j) Q := ⟨i, j, rfl, rfl, q⟩
theorem x_I {c : Int → Int → Prop} {g : Int → Int → D} (h : c i j) (q : Q (g i j)) : kI c g (.int i) (.int j) Q := ⟨i, j, rfl, rfl, h, q⟩
theorem x_catS (l : s.length + s2.length ≤ 1000000) (q : Q (.str (s ++ s2))) : kCatS (.str s) (.str s2) Q := ⟨s, s2, rfl, rfl, l, q⟩
theorem x_catT (l : ds.length + es.length ≤ 1000000) (q : Q (.tup (ds ++ es))) : kCatT (.tup ds) (.tup es) Q := ⟨ds, es, rfl, rfl, l, q⟩
theorem x_catL (l : ds.length + es.length ≤ 1000000) (q : Q (.lst (ds ++ es))) : kCatL (.lst ds) (.lst es) Q := ⟨ds, es, rfl, rfl, l, q⟩
theorem x_eqI {n : Bool} (q : Q (.bl (if n then !decide (i = j) else decide (i = j)))) : kEqS n (.int i) (.int j) Q := .inl ⟨i, j, rfl, rfl, q⟩
theorem x_eqS {n : Bool} (q : Q (.bl (if n then !decide (s = s2) else decide (s = s2)))) : kEqS n (.str s) (.str s2) Q := .inr ⟨s, s2, rfl, rfl, q⟩
theorem x_isN {n : Bool} (q : Q (.bl (if n then !isNon x else isNon x))) : kIsN n x .non Q := ⟨rfl, q⟩
theorem x_inT {n : Bool} {zs : List Str} (q : Q (.bl (if n then !decide (s ∈ zs) else decide (s ∈ zs)))) : kInT n (.str s) (.tup (zs.map D.str)) Q := ⟨s, zs, rfl, rfl, q⟩
theorem x_in2 {n : Bool} {a b : Str} (q : Q (.bl (if n then !decide (s ∈ [a, b]) else decide (s ∈ [a, b])))) : kInT n (.str s) (.tup [.str a, .str b]) Q := ⟨s, [a, b], rfl, rfl, q⟩
theorem x_in5 {n : Bool} {a b c d e : Str} (q : Q (.bl (if n then !decide (s ∈ [a, b, c, d, e]) else decide (s ∈ [a, b, c, d, e])))) : kInT n (.str s) (.tup [.str a, .str b, .str c, .str d, .str e]) Q := ⟨s, [a, b, c, d, e], rfl, rfl, q⟩
theorem x_ixT (h : atI ds i = some d) (q : Q d) : kIx (.tup ds) (.int i) Q := ⟨i, rfl, .inl ⟨ds, d, rfl, h, q⟩⟩
theorem x_ixL (h : atI ds i = some d) (q : Q d) : kIx (.lst ds) (.int i) Q := ⟨i, rfl, .inr (.inl ⟨ds, d, rfl, h, q⟩)⟩
theorem x_ixS {c : Nat} (l : s.length ≤ 1000000) (h : atI s.cps.toList i = some c) (q : Q (.str ⟨#[c]⟩)) : kIx (.str s) (.int i) Q := ⟨i, rfl, .inr (.inr (.inl ⟨s, c, rfl, l, h, q⟩))⟩
/-- of a term in the open -/
theorem x_ixD (e : x = .tup ds) (h : atI ds i = some d) (q : Q d) : kIx x (.int i) Q := by subst e; exact x_ixT h q
theorem x_slT {lo hi : Option Int} (q : Q (.tup (cutD ds lo hi))) : kSl (.tup ds) lo hi Q := .inl ⟨ds, rfl, q⟩
theorem x_slL {lo hi : Option Int} (q : Q (.lst (cutD ds lo hi))) : kSl (.lst ds) lo hi Q := .inr (.inl ⟨ds, rfl, q⟩)
theorem x_slS {lo hi : Option Int} (l : s.length ≤ 1000000) (q : Q (.str (cutS s lo hi))) : kSl (.str s) lo hi Q := .inr (.inr ⟨s, rfl, l, q⟩)
theorem x_slD {lo hi : Option Int} (e : x = .tup ds) (q : Q (.tup (cutD ds lo hi))) : kSl x lo hi Q := by subst e; exact x_slT q
theorem x_eqD {n : Bool} (h1 : dat x = true) (h2 : dat y = true) (h3 : dep x ≤ 64) (h4 : dep y ≤ 64) (q : Q (.bl (if n then !eqd x y else eqd x y))) : kEqD n x y Q := ⟨h1, h2, h3, h4, q⟩
theorem x_len {m : Nat} (h : lenD x = some m) (l : m ≤ 1000000) (q : Q (.int m)) : kLen [x] Q := ⟨x, m, rfl, h, l, q⟩
theorem x_int (q : Q (.int (if b then 1 else 0))) : kInt [.bl b] Q := ⟨b, rfl, q⟩
theorem x_listT (q : Q (.lst ds)) : kList [.tup ds] Q := .inl ⟨ds, rfl, q⟩
theorem x_listL (q : Q (.lst ds)) : kList [.lst ds] Q := .inr ⟨ds, rfl, q⟩
theorem x_tuple (q : Q (.tup ds)) : kTuple [.lst ds] Q := ⟨ds, rfl, q⟩
theorem x_max (q : Q (.int (if j > i then j else i))) : kMax [.int i, .int j] Q := ⟨i, j, rfl, q⟩
theorem x_min (q : Q (.int (if j < i then j else i))) : kMin [.int i, .int j] Q := ⟨i, j, rfl, q⟩
theorem x_isi {tn : Tn} (h : (tyS x).isSome = true) (q : Q (.bl (isA x tn))) : kIsi [x, .ty tn] Q := ⟨x, tn, rfl, h, q⟩
theorem x_rep0 (q : Q (.tup [])) : kRep0 (.tup (d :: ds)) (.int 0) Q := ⟨d, ds, rfl, rfl, q⟩
theorem x_rep2 (q : Q (.tup [d, d])) : kRep2 (.tup [d]) (.int 2) Q := ⟨d, rfl, rfl, q⟩
end
section
variable {α β γ δ ε : Type} {ds : List D} {π : Pu} {Q : D → Pu → Prop} {QL : List D → Pu → Prop}
theorem x_f1 {args : α → List D} {pre : α → Prop} {res : α → D} (a : α) (e : ds = args a) (p : pre a) (q : Q (res a) π) : spF args pre res ds π Q := ⟨a, e, p, q⟩
theorem x_fL {args : α → List D} {pre : α → Prop} {res : α → List D} (a : α) (e : ds = args a) (p : pre a) (q : QL (res a) π) : spL args pre res ds π QL := ⟨a, e, p, q⟩
end
end Kp
/-! Ex2: slots in plain form -/
namespace Kp
open PySem PySem.Spec L2
section
variable {A : DEnds} {ρ ρ' : DEnv} {π : Pu} {f : DTe} {fa : DTa} {T : Tgt} {i : Nat} {d : D}
theorem x_oneN {Q : DEnv → Prop} (e : ρ.set i (.pu d) = ρ') (q : Q ρ') : stD (.one i) d ρ Q := by subst e; exact q
theorem x_manyN {Q : DEnv → Prop} {is : List Nat} {ds : List D} (l : ds.length = is.length) (e : setsD ρ is ds = ρ') (q : Q ρ') : stD (.many is) (.tup ds) ρ Q := by subst e; exact ⟨ds, rfl, l, q⟩
theorem x_manyLN {Q : DEnv → Prop} {is : List Nat} {ds : List D} (l : ds.length = is.length) (e : setsD ρ is ds = ρ') (q : Q ρ') : stD (.manyL is) (.lst ds) ρ Q := by subst e; exact ⟨ds, rfl, l, q⟩
theorem x_seqN {g h : DTs} (e : ρ = ρ') (q : g { A with nx := h A } ρ' π) : dSeq g h A ρ π := by subst e; exact q
theorem x_fo1N {g : DTs} {r : List D} (e : ρ = ρ') (q : stD T d ρ' fun ρ'' => g { A with nx := foD T g A r, ct := foD T g A r, bk := A.nx } ρ'' π) : foD T g A (d :: r) ρ π := by subst e; exact q
theorem x_fo0N {g : DTs} (e : ρ = ρ') (q : A.nx ρ' π) : foD T g A [] ρ π := by subst e; exact q
theorem x_start {g : DTs} (e : ρ = ρ') (q : g A ρ' π) : g A ρ π := by subst e; exact q
end
end Kp
set_option maxRecDepth 100000
set_option maxHeartbeats 4000000
/-! Dl12: repr of nested tuples: some text of bounded length -/
namespace PySem
open PySem.Spec PyProof.Rows
mutual
/-- none, truths, small ints, texts, tuples of such -/
def rbOk : PyData → Bool
  | .none => true
  | .bool _ => true
  | .int i => decide (i.natAbs < 10 ^ 4)
  | .str x => x.cps.toList.all fun c => decide (c < 16 ^ 8)
  | .tuple xs => rbOks xs
  | .list _ => false
  | .dict _ => false
def rbOks : List PyData → Bool
  | [] => true
  | x :: xs => rbOk x && rbOks xs
end
mutual
/-- no longer than so -/
def rbLen : PyData → Nat
  | .none => 4
  | .bool _ => 5
  | .int _ => 5
  | .str x => 10 * x.length + 2
  | .tuple xs => rbLens xs + 5
  | .list _ => 0
  | .dict _ => 0
def rbLens : List PyData → Nat
  | [] => 0
  | x :: xs => rbLen x + 2 + rbLens xs
end
def ReprB (prog : Program) (w : World) (h₀ : Heap) (d : Nat) (v : Value) (L : Nat) : Prop := ∀ b, b + L ≤ sizeLine → ∀ (A : Around) (E : Value → Shared → Prop) (s : Shared) (Q : Str → Shared → Prop), s.heap = h₀ → A.units + d < cLine →
  (∀ (m : Str) tk, m.length ≤ L → Q m { s with toks := tk }) → wpAny (model prog w) A (pyReprUnder b v) Q E s
theorem ReprIs.toB {prog : Program} {w : World} {h₀ : Heap} {d : Nat} {v : Value} {t : Str} {L : Nat} (h : ReprIs prog w v t) (l : t.length ≤ L) : ReprB prog w h₀ d v L := fun b hb A E s Q _ _ hq => h b (by omega) A E s Q fun tk => hq t tk l
inductive ReprBs (prog : Program) (w : World) (h₀ : Heap) (d : Nat) : List Value → List Nat → Prop
  | nil : ReprBs prog w h₀ d [] []
  | cons {x : Value} {L : Nat} {l : List Value} {Ls : List Nat} : ReprB prog w h₀ d x L → ReprBs prog w h₀ d l Ls → ReprBs prog w h₀ d (x :: l) (L :: Ls)
def sum2 : List Nat → Nat
  | [] => 0
  | x :: xs => x + 2 + sum2 xs
section
variable {prog : Program} {w : World} {A : Around} {E : Value → Shared → Prop} {h₀ : Heap} {d : Nat}
theorem ReprBs.len : ∀ {l : List Value} {Ls : List Nat}, ReprBs prog w h₀ d l Ls → Ls.length = l.length
  | _, _, .nil => rfl
  | _, _, .cons _ h => congrArg Nat.succ h.len
theorem rb_fold (hu : A.units + d < cLine) : ∀ (l : List Value) (Ls : List Nat) (acc : Array Str) (n : Nat) (s : Shared) (Q : (Array Str × Nat) → Shared → Prop), ReprBs prog w h₀ d l Ls → n + sum2 Ls ≤ sizeLine → s.heap = h₀ →
    (∀ (ts : List Str) tk, ts.length = l.length → piled ts ≤ sum2 Ls → Q ⟨acc ++ ts.toArray, n + piled ts⟩ { s with toks := tk }) → wpAny (model prog w) A (forIn l (⟨acc, n⟩ : (Array Str × Nat)) tupBody) Q E s := by
  intro l
  induction l with
  | nil =>
    intro Ls acc n s Q hT hn hs h
    cases hT
    have h0 := h [] s.toks rfl (Nat.zero_le _)
    simp only [List.forIn_nil]
    exact wpAny_pure (by simpa [piled] using h0)
  | cons x l ih =>
    intro Ls acc n s Q hT hn hs h
    cases hT with
    | cons hx hl =>
      rename_i L Ls'
      have e : sum2 (L :: Ls') = L + 2 + sum2 Ls' := rfl
      rw [e] at hn
      rw [List.forIn_cons]
      refine wpAny_bind (wpAny_bind (hx (n + 1) (by omega) _ _ _ _ hs hu fun m tk hm => wpAny_pure ?_))
      refine ih Ls' (acc.push m) (n + (m.length + 2)) _ Q hl (by omega) hs fun ts tk' h1 h2 => ?_
      have h3 := h (m :: ts) tk' (congrArg Nat.succ h1) (by rw [piled_cons, e]; omega)
      have e2 : n + piled (m :: ts) = n + (m.length + 2) + piled ts := by rw [piled_cons]; omega
      rw [e2] at h3
      simpa using h3
theorem rb_rest {s : Shared} {a : Addr} {o : Obj} {items : Array Value} {n b : Nat} {Ls : List Nat} {Q : Fin → Shared → Prop} (hs : s.heap = h₀) (ha : h₀.get? a = some o) (hd : o.data = .seq items n) (hT : ReprBs prog w h₀ d items.toList Ls) (hu : A.units + d < cLine)
    (hsz : b + (sum2 Ls + 5) ≤ sizeLine) (h : ∀ (m : Str) u tk, m.length ≤ sum2 Ls + 5 → Q (.done (.ret (.str m u))) { s with toks := tk }) : wpAny (model prog w) A (tupleReprRest b (.ref a)) Q E s := by
  unfold tupleReprRest Builtin.Tuple.tupleItemsOf
  refine wpAny_bind (wpAny_bind (wpAny_seqItems (hs ▸ ha) hd (wpAny_pure ?_)))
  rw [← Array.forIn_toList]
  refine wpAny_bind (rb_fold hu _ Ls _ _ _ _ hT (by omega) hs fun ts tk h1 h2 => ?_)
  have hlen : ts.length = items.size := by simpa using h1
  have ht := fmt_text ts
  refine wpAny_bind (wpAny_mkStr (wpAny_pure ?_) ?_)
  · have h3 := h (tupleText ts) tk (tk + 1) (by omega)
    simpa [tupleText, hlen] using h3
  · have : (tupleText ts).length ≤ sizeLine := by omega
    simpa [tupleText, hlen] using this
theorem rb_at {s : Shared} {a : Addr} {o : Obj} {items : Array Value} {n b : Nat} {Ls : List Nat} {Q : Fin → Shared → Prop} (hs : s.heap = h₀) (ha : h₀.get? a = some o) (hd : o.data = .seq items n) (hT : ReprBs prog w h₀ d items.toList Ls) (hu : A.units + d < cLine)
    (hsz : b + (sum2 Ls + 5) ≤ sizeLine) (h : ∀ (m : Str) u tk, m.length ≤ sum2 Ls + 5 → Q (.done (.ret (.str m u))) { s with toks := tk }) : wpAny (model prog w) A (Builtin.tupleReprAt b ⟨[.ref a], []⟩) Q E s := by
  rw [tuple_repr_tree]
  refine wpAny_bind (fmt_underWay fun c => ?_)
  cases c with
  | true =>
    refine PySem.W.KFB.if_so rfl ?_
    refine wpAny_bind (wpAny_rule ?_)
    refine wpAny_bind (wpAny_mkStr (wpAny_pure ?_) (by decide +kernel))
    exact h "(...)" _ _ (Nat.le_trans fmt_way (Nat.le_add_left _ _))
  | false =>
    refine PySem.W.KFB.if_not rfl ?_
    exact rb_rest hs ha hd hT hu hsz h
theorem rb_call {s : Shared} {a : Addr} {o : Obj} {items : Array Value} {n : Nat} {Ls : List Nat} {Q : Value → Shared → Prop} (hs : s.heap = h₀) (ha : h₀.get? a = some o) (hc : o.cls = .type "tuple") (hd : o.data = .seq items n) (hT : ReprBs prog w h₀ d items.toList Ls) (hu : A.units + (d + 1) < cLine)
    (hsz : sum2 Ls + 5 ≤ sizeLine) (h : ∀ (m : Str) u tk, m.length ≤ sum2 Ls + 5 → Q (.str m u) { s with toks := tk }) : wpAny (model prog w) A (call (.builtin "tuple.__repr__") [.ref a]) Q E s := by
  refine wpAny_call (codeAny_call_builtin_own (Code.quiet_builtin _ (by decide +kernel)) F.entry_tuple_repr (F.slot_tuple_repr.check _ _ _ _ _ _ _ _ ⟨o, hs ▸ ha, hc⟩ (F.args_tuple_repr_1 _) (wpOwn_of_wpAny ?_)))
  exact rb_at (b := 0) hs ha hd hT (by rw [units_under_tuple_repr]; omega) (by omega) fun m u tk hm => h m u tk hm
theorem ReprB.tuple {a : Addr} {o : Obj} {items : Array Value} {n : Nat} {Ls : List Nat} (ha : h₀.get? a = some o) (hc : o.cls = .type "tuple") (hd : o.data = .seq items n) (hT : ReprBs prog w h₀ d items.toList Ls) : ReprB prog w h₀ (d + 1) (.ref a) (sum2 Ls + 5) := by
  intro b hb A E s Q hs hu hq
  refine wpAny_pyReprUnder_ref (by omega) ?_
  refine wpAny_pyReprObjUnder_twin (twin := "tuple.__repr__.under") ⟨o, hs ▸ ha, hc⟩ F.slot_tuple_repr rfl (by omega) ?_
  refine call_twin_own (F.quiet_tuple_repr_under _) F.entry_tuple_repr_under F.check_tuple_repr_under ⟨o, hs ▸ ha, hc⟩ F.slot_tuple_repr (F.args_tuple_repr_1 _) (wpOwn_of_wpAny ?_)
  exact rb_at (b := b) hs ha hd hT (by rw [units_under_tuple_repr_under]; omega) hb fun m u tk hm => ⟨⟨m, u, rfl⟩, m, u, rfl, hq m tk hm⟩
theorem ReprB.more {d' L : Nat} {v : Value} (h : ReprB prog w h₀ d v L) (hd : d ≤ d') : ReprB prog w h₀ d' v L := fun b hb A E s Q hs hu hq => h b hb A E s Q hs (by omega) hq
theorem ReprBs.more {d' : Nat} (hd : d ≤ d') : ∀ {l : List Value} {Ls : List Nat}, ReprBs prog w h₀ d l Ls → ReprBs prog w h₀ d' l Ls
  | _, _, .nil => .nil
  | _, _, .cons h r => .cons (h.more hd) (r.more hd)
mutual
theorem reprB_of : ∀ {v : Value} {p : PyData} {as : List Addr}, Reads h₀ v p as → rbOk p = true → rbLen p ≤ sizeLine → ReprB prog w h₀ p.depth v (rbLen p)
  | _, _, _, .none, _, _ => ReprIs.none.toB (by decide +kernel)
  | _, _, _, .bool b, _, _ => (ReprIs.bool b).toB (by cases b <;> decide +kernel)
  | _, _, _, .int i t, h, _ => by
    have h' : i.natAbs < 10 ^ 4 := of_decide_eq_true (by simpa only [rbOk] using h)
    refine (ReprIs.int t ?_).toB ?_
    · have : i.natAbs.log2 ≤ i.natAbs := Nat.log2_le_self _
      by_cases e : i.natAbs = 0
      · rw [e]; decide
      · have h2 : i.natAbs < 2 ^ 14 := Nat.lt_of_lt_of_le h' (by decide)
        have := (Nat.log2_lt e).mpr h2
        omega
    · have := PySem.int_text_length_le10 (a := i) (k := 4) (by decide) h'
      simp only [rbLen]
      show (Str.ofString (toString i)).length ≤ 5
      rw [ofString_length]; exact this
  | _, _, _, .str x t, h, hz => by
    have hz' : 10 * x.length + 2 ≤ sizeLine := by simpa only [rbLen] using hz
    have hc : ∀ c ∈ x.cps.toList, c < 16 ^ 8 := fun c hc => of_decide_eq_true (List.all_eq_true.mp (by simpa only [rbOk] using h) c hc)
    have hl := StrLaws.reprText_len x hc
    exact (ReprIs.str x t (by omega)).toB (by simpa only [rbLen] using hl)
  | _, _, _, .list _ _ _ _, h, _ => by simp [rbOk] at h
  | _, _, _, .dict _ _ _ _ _, h, _ => by simp [rbOk] at h
  | _, _, _, .tuple (xs := xs) h1 h2 h3 h4, h, hz => by
    have hz' : rbLens xs + 5 ≤ sizeLine := by simpa only [rbLen] using hz
    obtain ⟨Ls, r, e⟩ := reprBs_of h4 (by simpa only [rbOk] using h) (by omega)
    simp only [PyData.depth, rbLen]
    rw [← e]
    exact ReprB.tuple h1 h2 h3 r
theorem reprBs_of : ∀ {vs : List Value} {ps : List PyData} {as : List Addr}, ReadsAll h₀ vs ps as → rbOks ps = true → rbLens ps ≤ sizeLine → ∃ Ls, ReprBs prog w h₀ (PyData.depthAll ps) vs Ls ∧ sum2 Ls = rbLens ps
  | _, _, _, .nil, _, _ => ⟨[], .nil, by simp [sum2, rbLens]⟩
  | _, _, _, .cons (d := p) (ds := ps) r rs, h, hz => by
    have h' : rbOk p = true ∧ rbOks ps = true := by simpa [rbOks] using h
    have hz' : rbLen p + 2 + rbLens ps ≤ sizeLine := by simpa only [rbLens] using hz
    have q1 := reprB_of r h'.1 (by omega)
    obtain ⟨Ls, q2, e⟩ := reprBs_of rs h'.2 (by omega)
    simp only [PyData.depthAll, rbLens]
    exact ⟨rbLen p :: Ls, .cons (q1.more (Nat.le_max_left _ _)) (q2.more (Nat.le_max_right _ _)), by simp only [sum2, e]⟩
end
/-- repr(t) of a tuple -/
theorem repr_bound {s : Shared} {a : Addr} {xs : List PyData} {as : List Addr} {Q : Value → Shared → Prop} (r : Reads s.heap (.ref a) (.tuple xs) as) (h : rbOks xs = true) (hz : rbLens xs + 5 ≤ sizeLine) (hu : A.units + (PyData.depthAll xs + 2) < cLine)
    (hq : ∀ (m : Str) u tk, m.length ≤ rbLens xs + 5 → Q (.str m u) { s with toks := tk }) : wpAny (model prog w) A (call (.builtin "repr") [.ref a]) Q E s := by
  cases r with
  | tuple h1 h2 h3 h4 =>
    obtain ⟨Ls, r, e⟩ := reprBs_of (prog := prog) (w := w) h4 h (by omega)
    refine call_repr_slot (by omega) ⟨_, h1, h2⟩ F.slot_tuple_repr ?_
    exact rb_call rfl h1 h2 h3 r (by show A.units + 1 + _ < _; omega) (by omega) fun m u tk hm => ⟨m, u, rfl, hq m u tk (by omega)⟩
end
end PySem
set_option maxRecDepth 100000
set_option maxHeartbeats 2000000
/-! A1: the small defs of the terms -/
namespace Kp
open PySem PySem.Spec L2
section
variable {P : Program} {w : World} {K : PySem.W.Frag} {mg : Str → Option Value} {base : Heap}
theorem sc_is_whole : FnScope ["thing", "low", "high"] ["thing", "low", "high"] d_is_whole.scope := ⟨rfl, rfl, rfl, by decide +kernel, rfl, by decide +kernel, by decide +kernel⟩
theorem F_is_whole (Z : Tx P w K mg base) : Fn P w K mg base (GC K) "is_whole" 1 [] (spF (fun a : Int × Int × Int => [.int a.1, .int a.2.1, .int a.2.2]) (fun a => a.2.1 ≤ a.1 ∧ a.1 ≤ a.2.2) fun _ => .bl true) := by
  refine fn_p0 Z (k := 0) 0 rfl rfl rfl rfl sc_is_whole (by decide) (fun _ _ _ _ _ _ us hl => match us, hl with | [_, _, _], _ => rfl) (fun _ => rfl) (fun f cdv A outer s H E hr => by
    have sc := sc_is_whole
    exact (dss_one (ds_ret (de_and (de_callB call_isi dc_isi rfl Z.f_isinstance rfl (da_cons (de_var 0) (da_cons (de_ty .int rfl Z.f_int rfl) da_nil))) (de_and (de_not (de_callB call_isi dc_isi rfl Z.f_isinstance rfl (da_cons (de_var 0) (da_cons (de_ty .bool rfl Z.f_bool rfl) da_nil)))) (de_one (de_chain op_le op_le d2_le d2_le (de_var 1) (de_var 0) (de_var 2)))))))) ?hg
  rintro ⟨i, lo, hi⟩ π ⟨h1, h2⟩
  simp at h1 h2
  simp [and_assoc, h1, h2]
theorem sc_is_number : FnScope ["thing"] ["thing"] d_is_number.scope := ⟨rfl, rfl, rfl, by decide +kernel, rfl, by decide +kernel, by decide +kernel⟩
theorem F_is_number (Z : Tx P w K mg base) : Fn P w K mg base (GC K) "is_number" 1 [] (spF (fun n : Int => [.int n]) (fun n => 0 ≤ n) fun _ => .bl true) := by
  refine fn_p0 Z (k := 0) 1 rfl rfl rfl rfl sc_is_number (by decide) (fun _ _ _ _ _ _ us hl => match us, hl with | [_], _ => rfl) (fun _ => rfl) (fun f cdv A outer s H E hr => by
    have sc := sc_is_number
    exact (dss_one (ds_ret (de_and (de_callB call_isi dc_isi rfl Z.f_isinstance rfl (da_cons (de_var 0) (da_cons (de_ty .int rfl Z.f_int rfl) da_nil))) (de_and (de_not (de_callB call_isi dc_isi rfl Z.f_isinstance rfl (da_cons (de_var 0) (da_cons (de_ty .bool rfl Z.f_bool rfl) da_nil)))) (de_one (de_cmp op_ge d2_ge (de_var 0) de_int (nomark _)))))))) ?hg
  intro a π hp
  simp [and_assoc, hp]
theorem sc_is_name : FnScope ["thing", "sign"] ["thing"] d_is_name.scope := ⟨rfl, rfl, rfl, by decide +kernel, rfl, by decide +kernel, by decide +kernel⟩
theorem F_is_name (Z : Tx P w K mg base) : Fn P w K mg base (GC K) "is_name" 1 [] (spF (fun s : Str => [.str s]) okName fun _ => .bl true) := by
  refine fn_p0 Z (k := 0) 2 rfl rfl rfl rfl sc_is_name (by decide) (fun _ _ _ _ _ _ us hl => match us, hl with | [_], _ => rfl) (fun _ => rfl) (fun f cdv A outer s H E hr => by
    have sc := sc_is_name
    exact (dss_cons (ds_if (DW.dt (dw_or (dt_not (dt_val (de_callB call_isi dc_isi rfl Z.f_isinstance rfl (da_cons (de_var 0) (da_cons (de_ty .str rfl Z.f_str rfl) da_nil))))) (dw_or (dt_not (dt_chain op_le op_le d2_le d2_le de_int (de_callB call_len dc_len rfl Z.f_len rfl (da_cons (de_var 0) da_nil)) de_int)) (dw_or1 (dt_cmp op_in_seq (d2_inT false) (de_var 0) (de_KEPT Z rfl) rfl))))) (dss_one (ds_ret de_bl)) dss_nil) (dss_one (ds_ret (de_callB (cr_all rfl) dc_all rfl Z.f_all rfl (da_cons (DL.de (dl_lc rfl sc.nd (di_str (de_var 0)) (blkOk_by (N := ["thing", "sign"]) (sc := d_is_name.scope) (own := [("sign", 1)]) (by decide +kernel)) (by decide) (fun _ _ _ _ _ => (dg_name (i := 1) sc.nd)) (fun _ _ _ _ _ => (de_cmp op_in_sign d2_inS (de_var 1) (de_gs rfl Z.i_SMALL) rfl)))) da_nil)))))) ?hg
  rintro s π ⟨h1, h2, h3, h4⟩
  have h5 : s.length ≤ 1000000 := by omega
  have h6 : (1 : Int) ≤ (s.length : Int) := by omega
  have h7 : (s.length : Int) ≤ 8 := by omega
  simp [and_assoc, h1, h2, h3, h5, h6, h7]
  refine lcD_map (h := fun _ => .bl true) (fun c hc Q q => ?_) (by simp [Str.length] at h2 ⊢; omega) (kAll_true ⟨rfl, rfl⟩)
  have h8 := h4 c hc
  simp at h8
  simp [h8, q]
theorem sc_is_spot : FnScope ["thing", "number"] ["thing"] d_is_spot.scope := ⟨rfl, rfl, rfl, by decide +kernel, rfl, by decide +kernel, by decide +kernel⟩
theorem F_is_spot (Z : Tx P w K mg base) : Fn P w K mg base (GC K) "is_spot" 2 [] (spF (fun s : List Int => [spD s]) (fun s => s.length ≤ 1000000 ∧ ∀ n ∈ s, 0 ≤ n) fun _ => .bl true) := by
  refine fn_p0 Z (k := 1) 5 rfl rfl rfl rfl sc_is_spot (by decide) (fun _ _ _ _ _ _ us hl => match us, hl with | [_], _ => rfl) (fun _ => rfl) (fun f cdv A outer s H E hr => by
    have sc := sc_is_spot
    exact (dss_one (ds_ret (de_and (de_callB call_isi dc_isi rfl Z.f_isinstance rfl (da_cons (de_var 0) (da_cons (de_ty .tuple rfl Z.f_tuple rfl) da_nil))) (de_one (de_callB (cr_all rfl) dc_all rfl Z.f_all rfl (da_cons (DL.de (dl_lc rfl sc.nd (di_tup (de_var 0)) (blkOk_by (N := ["thing", "number"]) (sc := d_is_spot.scope) (own := [("number", 1)]) (by decide +kernel)) (by decide) (fun _ _ _ _ _ => (dg_name (i := 1) sc.nd)) (fun _ _ _ _ _ => (de_call (F_is_number Z) (hr.mono (by omega)) (da_cons (de_var 1) da_nil))))) da_nil))))))) ?hg
  intro s π hp
  simp [and_assoc, spD]
  refine lcD_map (h := fun _ => .bl true) (fun c hc Q q => ?_) (by simpa using hp.1) (kAll_true ⟨rfl, rfl⟩)
  simp [spF, q, hp.2 c hc]
theorem sc_with_parts : FnScope ["term", "some"] ["term", "some"] d_with_parts.scope := ⟨rfl, rfl, rfl, by decide +kernel, rfl, by decide +kernel, by decide +kernel⟩
theorem F_with_parts (Z : Tx P w K mg base) : Fn P w K mg base (GC K) "with_parts" 1 [] (spF (fun a : Str × List D × List D => [.tup (.str a.1 :: a.2.1), .lst a.2.2]) (fun a => a.2.2.length ≤ 1000) fun a => .tup (.str a.1 :: a.2.2)) := by
  refine fn_p0 Z (k := 0) 8 rfl rfl rfl rfl sc_with_parts (by decide) (fun _ _ _ _ _ _ us hl => match us, hl with | [_, _], _ => rfl) (fun _ => rfl) (fun f cdv A outer s H E hr => by
    have sc := sc_with_parts
    exact (dss_one (ds_ret (de_bin op_catA d2_catT (de_tup (da_cons (de_ix ix_seq d2_ix (de_var 0) de_int) da_nil)) (de_callTy call_tuple_of dc_tuple rfl Z.f_tuple rfl (da_cons (de_var 1) da_nil)))))) ?hg
  rintro ⟨s, ds, es⟩ π hp
  simp at hp
  simp [and_assoc]
  omega
theorem sc_binds : FnScope ["term", "number"] ["term", "number"] d_binds.scope := ⟨rfl, rfl, rfl, by decide +kernel, rfl, by decide +kernel, by decide +kernel⟩
theorem F_binds (Z : Tx P w K mg base) : Fn P w K mg base (GC K) "binds" 1 [] (spF (fun a : Str × List D × Int => [.tup (.str a.1 :: a.2.1), .int a.2.2]) (fun a => True) fun a => .int (if a.1 ∈ bindersD ∧ a.2.2 = 1 then 1 else 0)) := by
  refine fn_p0 Z (k := 0) 9 rfl rfl rfl rfl sc_binds (by decide) (fun _ _ _ _ _ _ us hl => match us, hl with | [_, _], _ => rfl) (fun _ => rfl) (fun f cdv A outer s H E hr => by
    have sc := sc_binds
    exact (dss_one (ds_ret (de_callTy call_int1 dc_int rfl Z.f_int rfl (da_cons (de_and (de_cmp op_in_seq (d2_inT false) (de_ix ix_seq d2_ix (de_var 0) de_int) (de_BINDERS Z rfl) rfl) (de_one (de_cmp op_eq d2_eqS (de_var 1) de_int (nomark _)))) da_nil))))) ?hg
  rintro ⟨s, ds, n⟩ π hp
  by_cases h : s ∈ bindersD <;> by_cases h2 : n = 1 <;> simp [and_assoc, h, h2]
theorem sc_inner : FnScope ["term"] ["term"] d_inner.scope := ⟨rfl, rfl, rfl, by decide +kernel, rfl, by decide +kernel, by decide +kernel⟩
theorem F_inner (Z : Tx P w K mg base) : FnL P w K mg base (GC K) "inner" 1 (spL (fun t : T => [toD t]) (fun t => True) fun t => t.parts.map toD) := by
  refine fn_l Z (k := 0) 7 rfl rfl rfl rfl rfl sc_inner (by decide) (fun _ _ _ _ _ _ us hl => match us, hl with | [_], _ => rfl) (fun _ => rfl) (fun f cdv A outer s H E hr => by
    have sc := sc_inner
    exact (dl_if (dt_cmp op_in_sign d2_inS de_str (de_ix ix_kdict (ix_forms Z) (de_ga rfl Z.g_FORMS) (de_ix ix_seq d2_ix (de_var 0) de_int)) rfl) (dl_list Z.f_list (da_cons (de_slice (de_var 0) (do_some de_int) do_none) da_nil)) (dl_lst da_nil))) ?hg
  intro t π Q hp q
  cases t with
  | var n => simpa [and_assoc] using q
  | leaf l => cases l <;> simpa [and_assoc] using q
  | bin b x y => cases b <;> simpa [and_assoc] using q
  | tri b x y z => cases b <;> simpa [and_assoc] using q
end
end Kp
set_option maxRecDepth 100000
set_option maxHeartbeats 2000000
/-! M2: what the defs of terms and steps compute -/
namespace Kp
open PySem PySem.Spec L2
/-! ### loops by an invariant -/
theorem foD_inv {T : Tgt} {g : DTs} {A : DEnds} (I : List D → DEnv → Pu → Prop) (h0 : ∀ ρ π, I [] ρ π → A.nx ρ π) (hs : ∀ d r ρ π (B : DEnv → Pu → Prop), I (d :: r) ρ π → (∀ ρ' π', I r ρ' π' → B ρ' π') → stD T d ρ fun ρ' => g { A with nx := B, ct := B, bk := A.nx } ρ' π) :
    ∀ {ds : List D} {ρ : DEnv} {π : Pu}, I ds ρ π → foD T g A ds ρ π
  | [], ρ, π, h => h0 ρ π h
  | d :: r, ρ, π, h => hs d r ρ π _ h fun ρ' π' h' => foD_inv I h0 hs h'
theorem whD_inv {t : DTt} {g : DTs} {A : DEnds} (I : Nat → DEnv → Pu → Prop) (hs : ∀ n ρ π (B : DEnv → Pu → Prop), I n ρ π → (∀ m ρ' π', n = m + 1 → I m ρ' π' → B ρ' π') → t ρ π fun c π1 => if c = true then g { A with nx := B, ct := B, bk := A.nx } ρ π1 else A.nx ρ π1) :
    ∀ (n : Nat) {ρ : DEnv} {π : Pu}, I n ρ π → whD t g A (n + 1) ρ π
  | 0, ρ, π, h => hs 0 ρ π _ h fun m _ _ e _ => nomatch e
  | n + 1, ρ, π, h => hs (n + 1) ρ π _ h fun m ρ' π' e h' => whD_inv I hs n (Nat.succ.inj e ▸ h')
/-- 1 under a binder -/
def Bn.bd : Bn → Int
  | .al => 1
  | .fn => 1
  | .ap => 0
  | .sf => 0
@[simp] theorem bd_al : Bn.al.bd = 1 := rfl
@[simp] theorem bd_fn : Bn.fn.bd = 1 := rfl
@[simp] theorem bd_ap : Bn.ap.bd = 0 := rfl
@[simp] theorem bd_sf : Bn.sf.bd = 0 := rfl
def T.raise : T → Int → Int → T
  | .var n, by_, s => if s ≤ n then .var (n + by_) else .var n
  | .leaf l, _, _ => .leaf l
  | .bin b x y, by_, s => .bin b (x.raise by_ s) (y.raise by_ (s + b.bd))
  | .tri t x y z, by_, s => .tri t (x.raise by_ s) (y.raise by_ s) (z.raise by_ s)
def T.give : T → T → Int → Int → T
  | .var n, o, k, b => if n = k + b then o.raise b 0 else if k + b < n then .var (n - 1) else .var n
  | .leaf l, _, _, _ => .leaf l
  | .bin c x y, o, k, b => .bin c (x.give o k b) (y.give o k (b + c.bd))
  | .tri t x y z, o, k, b => .tri t (x.give o k b) (y.give o k b) (z.give o k b)
def applyT (h : T) (ts : List T) : T := ts.foldl (fun f x => .bin .ap f x) h
/-- head and arguments -/
def T.open : T → T × List T
  | .bin .ap f x => (f.open.1, f.open.2 ++ [x])
  | t => (t, [])
def T.sz : T → Nat
  | .var _ => 1
  | .leaf _ => 1
  | .bin _ x y => x.sz + y.sz + 1
  | .tri _ x y z => x.sz + y.sz + z.sz + 1
def T.spots : T → List (List Int)
  | .var _ => [[]]
  | .leaf _ => [[]]
  | .bin _ x y => [] :: (x.spots.map (0 :: ·) ++ y.spots.map (1 :: ·))
  | .tri _ x y z => [] :: (x.spots.map (0 :: ·) ++ (y.spots.map (1 :: ·) ++ z.spots.map (2 :: ·)))
theorem T.spots_length : ∀ t : T, t.spots.length = t.sz
  | .var _ => rfl
  | .leaf _ => rfl
  | .bin b x y => by simp [T.spots, T.sz, x.spots_length, y.spots_length]
  | .tri t x y z => by simp [T.spots, T.sz, x.spots_length, y.spots_length, z.spots_length]; omega
theorem T.spots_short : ∀ {t : T} {sp : List Int}, sp ∈ t.spots → sp.length < t.dp
  | .var _, sp, h => by simp [T.spots] at h; simp [h]
  | .leaf _, sp, h => by simp [T.spots] at h; simp [h]
  | .bin b x y, sp, h => by
    simp [T.spots] at h
    rcases h with h | ⟨a, h, rfl⟩ | ⟨a, h, rfl⟩
    · simp [h]
    · have := T.spots_short h; simp only [List.length_cons, T.dp]; omega
    · have := T.spots_short h; simp only [List.length_cons, T.dp]; omega
  | .tri t x y z, sp, h => by
    simp [T.spots] at h
    rcases h with h | ⟨a, h, rfl⟩ | ⟨a, h, rfl⟩ | ⟨a, h, rfl⟩
    · simp [h]
    · have := T.spots_short h; simp only [List.length_cons, T.dp]; omega
    · have := T.spots_short h; simp only [List.length_cons, T.dp]; omega
    · have := T.spots_short h; simp only [List.length_cons, T.dp]; omega
theorem T.sz_pos (t : T) : 1 ≤ t.sz := by cases t <;> simp [T.sz]
/-- the part at a spot, the binders above it -/
def T.part : T → List Int → Option (T × Int)
  | t, [] => some (t, 0)
  | .bin b x y, k :: sp => if k = 0 then x.part sp else if k = 1 then (y.part sp).map fun p => (p.1, p.2 + b.bd) else none
  | .tri _ x y z, k :: sp => if k = 0 then x.part sp else if k = 1 then y.part sp else if k = 2 then z.part sp else none
  | _, _ :: _ => none
def T.put : T → List Int → T → T
  | _, [], o => o
  | .bin b x y, k :: sp, o => if k = 0 then .bin b (x.put sp o) y else .bin b x (y.put sp o)
  | .tri t x y z, k :: sp, o => if k = 0 then .tri t (x.put sp o) y z else if k = 1 then .tri t x (y.put sp o) z else .tri t x y (z.put sp o)
  | t, _ :: _, _ => t
/-- the ten names of a world -/
structure Nm where
  num : Str
  bit : Str
  none : Str
  both : Str
  either : Str
  line : Str
  tree : Str
  two : Str
  flip : Str
  held : Str
def Nm.all (N : Nm) : List Str := [N.num, N.bit, N.none, N.both, N.either, N.line, N.tree, N.two, N.flip, N.held]
structure Nm.Ok (N : Nm) : Prop where
  nd : N.all.Nodup
  ok : ∀ s ∈ N.all, okName s
abbrev tTh (s : Str) : T := .leaf (.thing s)
abbrev tMk (s : Str) (n : Int) : T := .leaf (.maker s n)
abbrev tKd (n : Int) : T := .leaf (.kind n)
abbrev tAp (f x : T) : T := .bin .ap f x
abbrev tFn (f x : T) : T := .bin .fn f x
abbrev tAl (f x : T) : T := .bin .al f x
def numT (N : Nm) : Nat → T
  | 0 => tMk N.num 0
  | n + 1 => tAp (tMk N.num 1) (numT N n)
/-- what flip means -/
def flipT (N : Nm) : T := tFn (tTh N.bit) (tAp (tAp (tAp (tAp (.leaf (.eater N.bit 0)) (tFn (tTh N.bit) (tTh N.bit))) (tMk N.bit 1)) (tMk N.bit 0)) (.var 0))
/-- an eater's step -/
def eatT (N : Nm) (t : T) : Option T := match t.open with
  | (.leaf (.eater s h), [sd, z, st, la]) => match la.open with
    | (.leaf (.maker m k), held) => if m ≠ s then none else if s = N.num then (match held with
        | [] => if k = 0 then some z else none
        | [n] => if k = 1 then some (tAp (tAp st n) (tAp (tAp (tAp (tAp (.leaf (.eater s h)) sd) z) st) n)) else none
        | _ => none)
      else if s = N.bit then (match held with
        | [] => if k = 0 then some z else if k = 1 then some st else none
        | _ => none)
      else none
    | _ => none
  | _ => none
def goneT (N : Nm) : T → Option (Str × T)
  | .bin .ap (.bin .fn S b) x => some ("give", b.give x 0 0)
  | .bin .ap f x => (eatT N (.bin .ap f x)).map fun t => ("eat", t)
  | .leaf (.name s) => if s = N.two then some ("mean", numT N 2) else if s = N.flip then some ("mean", flipT N) else none
  | .tri .pt _ (.bin .sf _ _) c => some ("self", c)
  | _ => none
def ownSteps (N : Nm) (t : T) : List (List Int × Str × T) := match goneT N t with
  | none => []
  | some p => [([], p.1, p.2)]
def stepsT (N : Nm) : T → List (List Int × Str × T)
  | .var n => ownSteps N (.var n)
  | .leaf l => ownSteps N (.leaf l)
  | .bin b x y => ownSteps N (.bin b x y) ++ ((stepsT N x).map (fun p => (0 :: p.1, p.2.1, .bin b p.2.2 y)) ++ (stepsT N y).map fun p => (1 :: p.1, p.2.1, .bin b x p.2.2))
  | .tri t x y z => ownSteps N (.tri t x y z) ++ ((stepsT N x).map (fun p => (0 :: p.1, p.2.1, .tri t p.2.2 y z)) ++ ((stepsT N y).map (fun p => (1 :: p.1, p.2.1, .tri t x p.2.2 z)) ++ (stepsT N z).map fun p => (2 :: p.1, p.2.1, .tri t x y p.2.2)))
/-- the first spot of a step -/
def firstT (N : Nm) : T → Option (List Int)
  | .var n => if (goneT N (.var n)).isSome then some [] else none
  | .leaf l => if (goneT N (.leaf l)).isSome then some [] else none
  | .bin b x y => if (goneT N (.bin b x y)).isSome then some [] else ((firstT N x).map (0 :: ·)).or ((firstT N y).map (1 :: ·))
  | .tri t x y z => if (goneT N (.tri t x y z)).isSome then some [] else ((firstT N x).map (0 :: ·)).or (((firstT N y).map (1 :: ·)).or ((firstT N z).map (2 :: ·)))
/-- eaters of num and bit alone -/
def T.eats (N : Nm) : T → Prop
  | .var _ => True
  | .leaf (.eater s _) => s = N.num ∨ s = N.bit
  | .leaf _ => True
  | .bin _ x y => x.eats N ∧ y.eats N
  | .tri _ x y z => x.eats N ∧ y.eats N ∧ z.eats N
end Kp
set_option maxRecDepth 100000
set_option maxHeartbeats 2000000
/-! A3: raise_in, give_in -/
namespace Kp
open PySem PySem.Spec L2
section
variable {P : Program} {w : World} {K : PySem.W.Frag} {mg : Str → Option Value} {base : Heap}
abbrev sp_raise (d : Nat) : SpecD := spF (fun a : T × Int × Int => [toD a.1, .int a.2.1, .int a.2.2]) (fun a => a.1.ok ∧ a.1.dp ≤ d) fun a => toD (a.1.raise a.2.1 a.2.2)
theorem sc_raise_in : FnScope ["term", "by", "start", "some", "number", "part"] ["term", "by", "start"] d_raise_in.scope := ⟨rfl, rfl, rfl, by decide +kernel, rfl, by decide +kernel, by decide +kernel⟩
theorem F_raise_in_of (Z : Tx P w K mg base) {k d : Nat} (hd : d ≤ 62) (h : Fn P w K mg base (GC K) "raise_in" (k + 1) [] (sp_raise d)) : Fn P w K mg base (GC K) "raise_in" (k + 2) [] (sp_raise (d + 1)) := by
  refine fn_p0 Z (k := (k+1)) 13 rfl rfl rfl rfl sc_raise_in (by decide) (fun _ _ _ _ _ _ us hl => match us, hl with | [_, _, _], _ => rfl) (fun _ => rfl) (fun f cdv A outer s H E hr => by
    have sc := sc_raise_in
    exact (dss_cons (ds_if (dt_cmp op_eq d2_eqS (de_ix ix_seq d2_ix (de_var 0) de_int) de_str (nomark _)) (dss_one (ds_ret (de_if (dt_cmp op_ge d2_ge (de_ix ix_seq d2_ix (de_var 0) de_int) (de_var 2) (nomark _)) (de_tup (da_cons de_str (da_cons (de_bin op_add d2_addI (de_ix ix_seq d2_ix (de_var 0) de_int) (de_var 1)) da_nil))) (de_var 0)))) dss_nil) (dss_cons (ds_set (i := 3) sc.nd (DL.de (de_callL (F_inner Z) (hr.mono (by omega)) (da_cons (de_var 0) da_nil)))) (dss_cons (ds_if (dt_cmp (op_eqD hr.units) d2_eqD (de_var 3) (de_lst da_nil) (nomark _)) (dss_one (ds_ret (de_var 0))) dss_nil) (dss_one (ds_ret (de_call (F_with_parts Z) (hr.mono (by omega)) (da_cons (de_var 0) (da_cons (DL.de (dl_lc rfl sc.nd (di_enum rfl Z.f_enumerate (da_cons (de_var 3) da_nil)) (blkOk_by (N := ["term", "by", "start", "some", "number", "part"]) (sc := d_raise_in.scope) (own := [("number", 4), ("part", 5)]) (by decide +kernel)) (by decide) (fun _ _ _ _ _ => (dg_tup rfl (dgs_cons (i := 4) sc.nd (dgs_cons (i := 5) sc.nd dgs_nil)))) (fun _ _ _ _ _ => (de_call (h) (hr.mono (by omega)) (da_cons (de_var 5) (da_cons (de_var 1) (da_cons (de_bin op_add d2_addI (de_var 2) (de_call (F_binds Z) (hr.mono (by omega)) (da_cons (de_var 0) (da_cons (de_var 4) da_nil)))) da_nil))))))) da_nil))))))))) ?hg
  rintro ⟨t, by_, s⟩ π ⟨h1, h2⟩
  simp only at h1 h2
  cases t with
  | var n =>
    by_cases hn : s ≤ n
    · simp [and_assoc, T.raise, hn]
    · have hm : n < s := by omega
      simp [and_assoc, T.raise, hn, hm]
  | leaf l => cases l <;> simp [and_assoc, T.raise, spL, dat, dats, dep, deps]
  | bin b x y =>
    simp at h1 h2
    obtain ⟨h3, h4⟩ := Nat.max_le.mp h2
    have h5 : max (x.dp) y.dp ≤ 63 := by omega
    cases b <;> simp [and_assoc, lcD, spF, spL, T.raise, h1, h3, h4, h5, dat, dats, dep, deps, T.dat, T.depD]
  | tri b x y z =>
    simp at h1 h2
    obtain ⟨h3, h4⟩ := Nat.max_le.mp h2
    obtain ⟨h4, h6⟩ := Nat.max_le.mp h4
    have h5 : max x.dp (max y.dp z.dp) ≤ 63 := by omega
    cases b <;> simp [and_assoc, lcD, spF, spL, T.raise, h1, h3, h4, h5, h6, dat, dats, dep, deps, T.dat, T.depD]
theorem F_raise_in (Z : Tx P w K mg base) : ∀ d : Nat, d ≤ 62 → Fn P w K mg base (GC K) "raise_in" (d + 1) [] (sp_raise d)
  | 0, _ => by
    refine fn_void Z 13 rfl rfl rfl rfl (ps := ["term", "by", "start"]) (fun _ _ _ _ _ _ us hl => match us, hl with | [_, _, _], _ => rfl) ?_
    rintro ds π Q ⟨⟨t, _⟩, e, ⟨h1, h2⟩, q⟩
    have := t.dp_pos
    simp only at h2
    omega
  | d + 1, h => F_raise_in_of Z (by omega) (F_raise_in Z d (by omega))
end
end Kp
set_option maxRecDepth 100000
set_option maxHeartbeats 2000000
/-! A5: spots_in, gone_to -/
namespace Kp
open PySem PySem.Spec L2
section
variable {P : Program} {w : World} {K : PySem.W.Frag} {mg : Str → Option Value} {base : Heap}
theorem spD_cons (k : Int) (sp : List Int) : D.tup (.int k :: sp.map .int) = spD (k :: sp) := rfl
abbrev sp_spots (d : Nat) : SpecD := spF (fun t : T => [toD t]) (fun t => t.dp ≤ d ∧ t.sz ≤ 100000) fun t => .lst (t.spots.map spD)
theorem sc_spots_in : FnScope ["term", "found", "number", "part", "spot"] ["term"] d_spots_in.scope := ⟨rfl, rfl, rfl, by decide +kernel, rfl, by decide +kernel, by decide +kernel⟩
theorem F_spots_in_of (Z : Tx P w K mg base) {k d : Nat} (hd : d ≤ 62) (h : Fn P w K mg base (GC K) "spots_in" (k + 1) [] (sp_spots d)) : Fn P w K mg base (GC K) "spots_in" (k + 2) [] (sp_spots (d + 1)) := by
  refine fn_p0 Z (k := (k+1)) 11 rfl rfl rfl rfl sc_spots_in (by decide) (fun _ _ _ _ _ _ us hl => match us, hl with | [_], _ => rfl) (fun _ => rfl) (fun f cdv A outer s H E hr => by
    have sc := sc_spots_in
    exact (dss_cons (ds_own (i := 1) sc.nd (dl_lst (da_cons (de_tup da_nil) da_nil))) (dss_cons (ds_for (di_enum rfl Z.f_enumerate (da_cons (DL.de (de_callL (F_inner Z) (hr.mono (by omega)) (da_cons (de_var 0) da_nil))) da_nil)) (dg_tup rfl (dgs_cons (i := 2) sc.nd (dgs_cons (i := 3) sc.nd dgs_nil))) (dss_one (ds_extend 1 (DL.de (dl_lc rfl sc.nd (di_list (de_call (h) (hr.mono (by omega)) (da_cons (de_var 3) da_nil))) (blkOk_by (N := ["term", "found", "number", "part", "spot"]) (sc := d_spots_in.scope) (own := [("spot", 4)]) (by decide +kernel)) (by decide) (fun _ _ _ _ _ => (dg_name (i := 4) sc.nd)) (fun _ _ _ _ _ => (de_bin op_catA d2_catT (de_tup (da_cons (de_var 2) da_nil)) (de_var 4)))))))) (dss_one (ds_frz 1 (ds_ret (de_var 1))))))) ?hg
  rintro t π ⟨h1, h2⟩
  have el : ∀ (k : Int) (x : T) (ρ : DEnv) (Q : List D → Pu → Prop), x.dp ≤ d → x.sz ≤ 100000 → ρ[2]? = some (Sl.pu (.int k)) → ρ[4]? = some Sl.no → ρ.length = 5 → Q (x.spots.map fun sp => spD (k :: sp)) π → lcD (Tgt.one 4) (dBin kCatT (dTup (dCons (dVar 2) dNil)) (dVar 4)) ρ (x.spots.map spD) [] π Q := by
    intro k x ρ Q a1 a2 a3 a4 a5 q
    refine lcD_map (h := fun sp => spD (k :: sp)) (fun sp hsp B hB => ?_) (by simp [x.spots_length]; omega) (by simpa using q)
    have := T.spots_short hsp
    have e : (ρ.set 4 (Sl.pu (spD sp)))[2]? = some (Sl.pu (.int k)) := by rw [List.getElem?_set_ne (by decide)]; exact a3
    have e2 : (ρ.set 4 (Sl.pu (spD sp)))[4]? = some (Sl.pu (spD sp)) := by rw [List.getElem?_set_self (by omega)]
    simp [e, e2]
    exact ⟨by omega, hB⟩
  cases t with
  | var n => simp [and_assoc, spL, foD, T.spots, spD]
  | leaf l => cases l <;> simp [and_assoc, spL, foD, T.spots, spD]
  | bin b x y =>
    simp [T.sz] at h1 h2
    obtain ⟨h3, h4⟩ := Nat.max_le.mp h1
    have l1 := x.spots_length
    have l2 := y.spots_length
    cases b <;> simp [and_assoc, spL, spF, foD, T.spots, h3, h4]
    all_goals
      refine ⟨by omega, el 0 x _ _ h3 (by omega) rfl rfl rfl ?_⟩
      refine ⟨by simp; omega, by omega, el 1 y _ _ h4 (by omega) rfl rfl rfl ?_⟩
      refine ⟨by simp; omega, rfl, by simp [Function.comp_def], rfl⟩
  | tri b x y z =>
    simp [T.sz] at h1 h2
    obtain ⟨h3, h4⟩ := Nat.max_le.mp h1
    obtain ⟨h4, h5⟩ := Nat.max_le.mp h4
    have l1 := x.spots_length
    have l2 := y.spots_length
    have l3 := z.spots_length
    cases b <;> simp [and_assoc, spL, spF, foD, T.spots, h3, h4, h5]
    all_goals
      refine ⟨by omega, el 0 x _ _ h3 (by omega) rfl rfl rfl ?_⟩
      refine ⟨by simp; omega, by omega, el 1 y _ _ h4 (by omega) rfl rfl rfl ?_⟩
      refine ⟨by simp; omega, by omega, el 2 z _ _ h5 (by omega) rfl rfl rfl ?_⟩
      refine ⟨by simp; omega, rfl, by simp [Function.comp_def], rfl⟩
theorem F_spots_in (Z : Tx P w K mg base) : ∀ d : Nat, d ≤ 62 → Fn P w K mg base (GC K) "spots_in" (d + 1) [] (sp_spots d)
  | 0, _ => by
    refine fn_void Z 11 rfl rfl rfl rfl (ps := ["term"]) (fun _ _ _ _ _ _ us hl => match us, hl with | [_], _ => rfl) ?_
    rintro ds π Q ⟨t, e, ⟨h1, h2⟩, q⟩
    have := t.dp_pos
    omega
  | d + 1, h => F_spots_in_of Z (by omega) (F_spots_in Z d (by omega))
theorem sc_gone_to : FnScope ["term", "spot", "part", "binders", "number"] ["term", "spot"] d_gone_to.scope := ⟨rfl, rfl, rfl, by decide +kernel, rfl, by decide +kernel, by decide +kernel⟩
theorem F_gone_to (Z : Tx P w K mg base) : Fn P w K mg base (GC K) "gone_to" 3 [] (spF (fun a : T × List Int × T × Int => [toD a.1, spD a.2.1]) (fun a => a.1.part a.2.1 = some (a.2.2.1, a.2.2.2) ∧ a.2.1.length ≤ 1000000 ∧ ∀ n ∈ a.2.1, 0 ≤ n) fun a => .tup [toD a.2.2.1, .int a.2.2.2]) := by
  refine fn_p0 Z (k := 2) 10 rfl rfl rfl rfl sc_gone_to (by decide) (fun _ _ _ _ _ _ us hl => match us, hl with | [_, _], _ => rfl) (fun _ => rfl) (fun f cdv A outer s H E hr => by
    have sc := sc_gone_to
    exact (dss_cons (ds_if (dt_not (dt_val (de_call (F_is_spot Z) (hr.mono (by omega)) (da_cons (de_var 1) da_nil)))) (dss_one ds_never) dss_nil) (dss_cons (ds_set (i := 2) sc.nd (de_var 0)) (dss_cons (ds_set (i := 3) sc.nd de_int) (dss_cons (ds_for (di_tup (de_var 1)) (dg_name (i := 4) sc.nd) (dss_cons (ds_if (dt_cmp op_ge d2_ge (de_var 4) (de_callB call_len dc_len rfl Z.f_len rfl (da_cons (DL.de (de_callL (F_inner Z) (hr.mono (by omega)) (da_cons (de_var 2) da_nil))) da_nil)) (nomark _)) (dss_one ds_never) dss_nil) (dss_cons (ds_aug (i := 3) sc.nd ip_add (de_call (F_binds Z) (hr.mono (by omega)) (da_cons (de_var 2) (da_cons (de_var 4) da_nil)))) (dss_one (ds_set (i := 2) sc.nd (de_ix ix_seq d2_ix (DL.de (de_callL (F_inner Z) (hr.mono (by omega)) (da_cons (de_var 2) da_nil))) (de_var 4))))))) (dss_one (ds_ret (de_tup (da_cons (de_var 2) (da_cons (de_var 3) da_nil)))))))))) ?hg
  rintro ⟨t, sp, u, c⟩ π ⟨h1, h2, h3⟩
  simp only at h1 h2 h3
  simp [and_assoc, spF, spL]
  refine ⟨h2, h3, foD_inv (I := fun ds ρ π' => ∃ sp' v b n c', ds = sp'.map D.int ∧ ρ = [.pu (toD t), .pu (spD sp), .pu (toD v), .pu (.int b), n] ∧ v.part sp' = some (u, c') ∧ b + c' = c ∧ (∀ n ∈ sp', 0 ≤ n) ∧ π' = π) ?_ ?_ ⟨sp, t, 0, _, c, rfl, rfl, h1, by omega, h3, rfl⟩⟩
  · rintro ρ π' ⟨sp', v, b, n, c', e, e2, e3, e4, e5, e6⟩
    cases sp' with
    | nil =>
      simp [T.part] at e3
      obtain ⟨rfl, rfl⟩ := e3
      simp [e2, e6]; omega
    | cons => cases e
  · rintro dd r ρ π' B ⟨sp', v, b, n, c', e, e2, e3, e4, e5, e6⟩ hB
    cases sp' with
    | nil => cases e
    | cons k sp' =>
      simp only [List.map_cons, List.cons.injEq] at e
      obtain ⟨e, e'⟩ := e
      subst e e2 e6
      have fin : ∀ v' b' c'', v'.part sp' = some (u, c'') → b' + c'' = c → B [.pu (toD t), .pu (spD sp), .pu (toD v'), .pu (.int b'), .pu (.int k)] π' := fun v' b' c'' f1 f2 => hB _ _ ⟨sp', v', b', _, c'', e', rfl, f1, f2, fun n hn => e5 n (List.mem_cons_of_mem _ hn), rfl⟩
      cases v with
      | var m => simp [T.part] at e3
      | leaf l => simp [T.part] at e3
      | bin bb x y =>
        simp only [T.part] at e3
        split at e3
        · rename_i h0
          subst h0
          cases bb <;> simp [and_assoc, spF, spL] <;> exact fin _ _ _ e3 (by omega)
        · split at e3
          · rename_i h0 h1
            subst h1
            cases e4' : y.part sp' with
            | none => rw [e4'] at e3; cases e3
            | some q =>
              rw [e4'] at e3
              simp at e3
              obtain ⟨e5', e6'⟩ := e3
              have e7 : y.part sp' = some (u, q.2) := by rw [e4', ← e5']
              cases bb <;> simp at e6' <;> simp [and_assoc, spF, spL] <;> exact fin _ _ _ e7 (by omega)
          · cases e3
      | tri tt x y z =>
        simp only [T.part] at e3
        split at e3
        · rename_i h0
          subst h0
          cases tt <;> simp [and_assoc, spF, spL] <;> exact fin _ _ _ e3 (by omega)
        · split at e3
          · rename_i h0 h1
            subst h1
            cases tt <;> simp [and_assoc, spF, spL] <;> exact fin _ _ _ e3 (by omega)
          · split at e3
            · rename_i h0 h1 h2'
              subst h2'
              cases tt <;> simp [and_assoc, spF, spL] <;> exact fin _ _ _ e3 (by omega)
            · cases e3
end
end Kp
set_option maxRecDepth 100000
set_option maxHeartbeats 2000000
/-! A6: put_at, apply_to, open_up -/
namespace Kp
open PySem PySem.Spec L2
section
variable {P : Program} {w : World} {K : PySem.W.Frag} {mg : Str → Option Value} {base : Heap}
theorem sc_apply_to : FnScope ["head", "some", "found", "part"] ["head", "some"] d_apply_to.scope := ⟨rfl, rfl, rfl, by decide +kernel, rfl, by decide +kernel, by decide +kernel⟩
theorem F_apply_to (Z : Tx P w K mg base) : Fn P w K mg base (GC K) "apply_to" 1 [] (spF (fun a : T × List T => [toD a.1, .lst (a.2.map toD)]) (fun a => True) fun a => toD (applyT a.1 a.2)) := by
  refine fn_p0 Z (k := 0) 15 rfl rfl rfl rfl sc_apply_to (by decide) (fun _ _ _ _ _ _ us hl => match us, hl with | [_, _], _ => rfl) (fun _ => rfl) (fun f cdv A outer s H E hr => by
    have sc := sc_apply_to
    exact (dss_cons (ds_set (i := 2) sc.nd (de_var 0)) (dss_cons (ds_for (di_list (de_var 1)) (dg_name (i := 3) sc.nd) (dss_one (ds_set (i := 2) sc.nd (de_tup (da_cons de_str (da_cons (de_var 2) (da_cons (de_var 3) da_nil))))))) (dss_one (ds_ret (de_var 2)))))) ?hg
  rintro ⟨t, ts⟩ π hp
  simp [and_assoc]
  refine foD_inv (I := fun ds ρ π' => ∃ ts' u n, ds = ts'.map toD ∧ ρ = [.pu (toD t), .pu (.lst (ts.map toD)), .pu (toD u), n] ∧ applyT u ts' = applyT t ts ∧ π' = π) ?_ ?_ ⟨ts, t, _, rfl, rfl, rfl, rfl⟩
  · rintro ρ π' ⟨ts', u, n, e, e2, e3, e4⟩
    cases ts' with
    | nil => simp [applyT] at e3; simp [e2, e3, e4, applyT]
    | cons => cases e
  · rintro dd r ρ π' B ⟨ts', u, n, e, e2, e3, e4⟩ hB
    cases ts' with
    | nil => cases e
    | cons v ts' =>
      simp only [List.map_cons, List.cons.injEq] at e
      obtain ⟨e, e'⟩ := e
      subst e e2 e4
      simp [and_assoc]
      exact hB _ _ ⟨ts', tAp u v, _, e', rfl, e3, rfl⟩
theorem sc_open_up : FnScope ["term", "some", "head"] ["term"] d_open_up.scope := ⟨rfl, rfl, rfl, by decide +kernel, rfl, by decide +kernel, by decide +kernel⟩
theorem F_open_up (Z : Tx P w K mg base) : Fn P w K mg base (GC K) "open_up" 1 [] (spF (fun t : T => [toD t]) (fun t => t.dp ≤ 64) fun t => .tup [toD t.open.1, .lst (t.open.2.map toD)]) := by
  refine fn_p0 Z (k := 0) 16 rfl rfl rfl rfl sc_open_up (by decide) (fun _ _ _ _ _ _ us hl => match us, hl with | [_], _ => rfl) (fun _ => rfl) (fun f cdv A outer s H E hr => by
    have sc := sc_open_up
    exact (dss_cons (ds_own (i := 1) sc.nd (dl_lst da_nil)) (dss_cons (ds_set (i := 2) sc.nd (de_var 0)) (dss_cons (ds_while (dt_cmp op_eq d2_eqS (de_ix ix_seq d2_ix (de_var 2) de_int) de_str (nomark _)) (dss_cons (ds_insert0 1 (de_ix ix_seq d2_ix (de_var 2) de_int)) (dss_one (ds_set (i := 2) sc.nd (de_ix ix_seq d2_ix (de_var 2) de_int))))) (dss_one (ds_frz 1 (ds_ret (de_tup (da_cons (de_var 2) (da_cons (de_var 1) da_nil)))))))))) ?hg
  rintro t π hp
  simp [and_assoc]
  refine ⟨t.dp + 1, whD_inv (I := fun n ρ π' => ∃ h acc, ρ = [.pu (toD t), .ow (acc.map toD), .pu (toD h)] ∧ h.dp ≤ n ∧ acc.length + h.dp ≤ 100 ∧ t.open = (h.open.1, h.open.2 ++ acc) ∧ π' = π) ?_ t.dp ⟨t, [], rfl, Nat.le_refl _, by simp; omega, by simp, rfl⟩⟩
  rintro n ρ π' B ⟨h, acc, e1, e2, e3, e4, e5⟩ hB
  subst e1 e5
  have stop : h.open = (h, []) → DEnds.nx ({ nx := dRet (dTup (dCons (dVar 2) (dCons (dVar 1) dNil))) { nx := fun x π'_1 => False, rt := fun d' π'_1 => d' = D.tup [toD t.open.1, D.lst (List.map toD t.open.2)] ∧ π'_1 = π' }, rt := fun d' π'_1 => d' = D.tup [toD t.open.1, D.lst (List.map toD t.open.2)] ∧ π'_1 = π' } : DEnds) [.pu (toD t), .pu (.lst (acc.map toD)), .pu (toD h)] π' := by
    intro ho
    rw [ho] at e4
    simp [e4]
  cases h with
  | var m => simp [and_assoc]; simp at stop; exact stop rfl
  | leaf l => cases l <;> (simp [and_assoc]; simp at stop; exact stop rfl)
  | tri b x y z => cases b <;> (simp [and_assoc]; simp at stop; exact stop rfl)
  | bin b x y =>
    cases b with
    | ap => 
      simp [and_assoc]
      simp at e2 e3
      have m1 := Nat.le_max_left x.dp y.dp
      have hx := x.dp_pos
      refine ⟨by omega, hB (n - 1) _ _ (by omega) ⟨x, y :: acc, rfl, by omega, by simp; omega, ?_, rfl⟩⟩
      rw [e4]; simp [T.open]
    | al => (simp [and_assoc]; simp at stop; exact stop rfl)
    | fn => (simp [and_assoc]; simp at stop; exact stop rfl)
    | sf => (simp [and_assoc]; simp at stop; exact stop rfl)
abbrev sp_put (d : Nat) : SpecD := spF (fun a : T × List Int × T => [toD a.1, spD a.2.1, toD a.2.2]) (fun a => (a.1.part a.2.1).isSome = true ∧ a.1.dp ≤ d) fun a => toD (a.1.put a.2.1 a.2.2)
theorem sc_put_at : FnScope ["term", "spot", "other", "some"] ["term", "spot", "other"] d_put_at.scope := ⟨rfl, rfl, rfl, by decide +kernel, rfl, by decide +kernel, by decide +kernel⟩
theorem F_put_at_of (Z : Tx P w K mg base) {k d : Nat} (h : Fn P w K mg base (GC K) "put_at" (k + 1) [] (sp_put d)) : Fn P w K mg base (GC K) "put_at" (k + 2) [] (sp_put (d + 1)) := by
  refine fn_p0 Z (k := (k+1)) 12 rfl rfl rfl rfl sc_put_at (by decide) (fun _ _ _ _ _ _ us hl => match us, hl with | [_, _, _], _ => rfl) (fun _ => rfl) (fun f cdv A outer s H E hr => by
    have sc := sc_put_at
    exact (dss_cons (ds_if (dt_cmp (op_eqD hr.units) d2_eqD (de_var 1) (de_tup da_nil) (nomark _)) (dss_one (ds_ret (de_var 2))) dss_nil) (dss_cons (ds_own (i := 3) sc.nd (de_callL (F_inner Z) (hr.mono (by omega)) (da_cons (de_var 0) da_nil))) (dss_cons (ds_setO 3 (de_call (h) (hr.mono (by omega)) (da_cons (de_ixO 3 (de_ix ix_seq d2_ix (de_var 1) de_int)) (da_cons (de_slice (de_var 1) (do_some de_int) do_none) (da_cons (de_var 2) da_nil)))) (de_ix ix_seq d2_ix (de_var 1) de_int)) (dss_one (ds_frz 3 (ds_ret (de_call (F_with_parts Z) (hr.mono (by omega)) (da_cons (de_var 0) (da_cons (de_var 3) da_nil)))))))))) ?hg
  rintro ⟨t, sp, o⟩ π ⟨h1, h2⟩
  simp only at h1 h2
  cases sp with
  | nil => simp [and_assoc, T.put, dat, dats, dep, deps]
  | cons j sp =>
    have c1 : cutD (List.map D.int (j :: sp)) (some 1) none = sp.map .int := cutD_1 _ _
    have c2 : D.tup (sp.map .int) = spD sp := rfl
    cases t with
    | var n => simp [T.part] at h1
    | leaf l => simp [T.part] at h1
    | bin b x y =>
      simp only [T.part] at h1
      simp at h2
      obtain ⟨h4, h5⟩ := Nat.max_le.mp h2
      split at h1
      · rename_i j0
        subst j0
        cases b <;> simp [and_assoc, spF, spL, T.put, h1, h4, c2, ixN, dat, dats, dep, deps]
      · split at h1
        · rename_i j0 j1
          subst j1
          simp at h1
          cases b <;> simp [and_assoc, spF, spL, T.put, h1, h5, c2, ixN, dat, dats, dep, deps]
        · cases h1
    | tri b x y z =>
      simp only [T.part] at h1
      simp at h2
      obtain ⟨h4, h5⟩ := Nat.max_le.mp h2
      obtain ⟨h5, h6⟩ := Nat.max_le.mp h5
      split at h1
      · rename_i j0
        subst j0
        cases b <;> simp [and_assoc, spF, spL, T.put, h1, h4, c2, ixN, dat, dats, dep, deps]
      · split at h1
        · rename_i j0 j1
          subst j1
          cases b <;> simp [and_assoc, spF, spL, T.put, h1, h5, c2, ixN, dat, dats, dep, deps]
        · split at h1
          · rename_i j0 j1 j2
            subst j2
            cases b <;> simp [and_assoc, spF, spL, T.put, h1, h6, c2, ixN, dat, dats, dep, deps]
          · cases h1
theorem F_put_at (Z : Tx P w K mg base) : ∀ d : Nat, Fn P w K mg base (GC K) "put_at" (d + 1) [] (sp_put d)
  | 0 => by
    refine fn_void Z 12 rfl rfl rfl rfl (ps := ["term", "spot", "other"]) (fun _ _ _ _ _ _ us hl => match us, hl with | [_, _, _], _ => rfl) ?_
    rintro ds π Q ⟨⟨t, _⟩, e, ⟨h1, h2⟩, q⟩
    have := t.dp_pos
    simp only at h2
    omega
  | d + 1 => F_put_at_of Z (F_put_at Z d)
end
end Kp
set_option maxRecDepth 100000
set_option maxHeartbeats 2000000
/-! A7: has, told, row_of, need_term, need_ground, need_most -/
namespace Kp
open PySem PySem.Spec L2
section
variable {P : Program} {w : World} {K : PySem.W.Frag} {mg : Str → Option Value} {base : Heap}
theorem sc_Ground_has : FnScope ["self", "thing"] ["self", "thing"] d_Ground_has.scope := ⟨rfl, rfl, rfl, by decide +kernel, rfl, by decide +kernel, by decide +kernel⟩
theorem F_has (Z : Tx P w K mg base) : FnM P w K mg base "has" 1 (spF (fun a : List Str × List D × Str => [.gnd a.1 a.2.1, .str a.2.2]) (fun _ => True) fun a => .bl (rowAt a.1 a.2.1 a.2.2).isSome) := by
  refine fn_me Z (k := 0) 62 rfl rfl rfl (Z.m_has) sc_Ground_has (by decide) (fun _ _ _ _ _ _ us hl => match us, hl with | [_, _], _ => rfl) (fun _ => rfl) (fun f cdv A outer s H E hr => by
    have sc := sc_Ground_has
    exact (dss_one (ds_ret (de_and (de_callB call_isi dc_isi rfl Z.f_isinstance rfl (da_cons (de_var 1) (da_cons (de_ty .str rfl Z.f_str rfl) da_nil))) (de_one (de_inBy 0 Z rfl hr.units2 (de_var 1))))))) ?hg
  rintro ⟨ns, rs, s⟩ π hp
  simp [and_assoc]
theorem sc_Ground_told : FnScope ["self", "name"] ["self", "name"] d_Ground_told.scope := ⟨rfl, rfl, rfl, by decide +kernel, rfl, by decide +kernel, by decide +kernel⟩
theorem F_told (Z : Tx P w K mg base) : FnM P w K mg base "told" 2 (spF (fun a : List Str × List D × Str × D => [.gnd a.1 a.2.1, .str a.2.2.1]) (fun a => rowAt a.1 a.2.1 a.2.2.1 = some a.2.2.2) fun a => a.2.2.2) := by
  refine fn_me Z (k := 1) 63 rfl rfl rfl (Z.m_told) sc_Ground_told (by decide) (fun _ _ _ _ _ _ us hl => match us, hl with | [_, _], _ => rfl) (fun _ => rfl) (fun f cdv A outer s H E hr => by
    have sc := sc_Ground_told
    exact (dss_cons (ds_if (dt_not (dt_val (de_meth (m := "has") Z (F_has Z) rfl (hr.mono (by omega)) (Or.inl rfl) (de_var 0) (da_cons (de_var 1) da_nil)))) (dss_one ds_never) dss_nil) (dss_one (ds_ret (de_getBy 0 Z rfl hr.units2 (de_var 1)))))) ?hg
  rintro ⟨ns, rs, s, r⟩ π hp
  simp only at hp
  simp [and_assoc, spF, hp]
theorem sc_row_of : FnScope ["ground", "name", "word", "row"] ["ground", "name", "word"] d_row_of.scope := ⟨rfl, rfl, rfl, by decide +kernel, rfl, by decide +kernel, by decide +kernel⟩
theorem F_row_of (Z : Tx P w K mg base) : Fn P w K mg base (GC K) "row_of" 3 [] (spF (fun a : List Str × List D × Str × Str × D => [.gnd a.1 a.2.1, .str a.2.2.1, .str a.2.2.2.1]) (fun a => (rowAt a.1 a.2.1 a.2.2.1 = none ∧ a.2.2.2.2 = .non) ∨ ∃ wd ds, rowAt a.1 a.2.1 a.2.2.1 = some (.tup (.str wd :: ds)) ∧ a.2.2.2.2 = if wd = a.2.2.2.1 then .tup (.str wd :: ds) else .non) fun a => a.2.2.2.2) := by
  refine fn_p0 Z (k := 2) 31 rfl rfl rfl rfl sc_row_of (by decide) (fun _ _ _ _ _ _ us hl => match us, hl with | [_, _, _], _ => rfl) (fun _ => rfl) (fun f cdv A outer s H E hr => by
    have sc := sc_row_of
    exact (dss_cons (ds_if (dt_not (dt_val (de_meth (m := "has") Z (F_has Z) rfl (hr.mono (by omega)) (Or.inl rfl) (de_var 0) (da_cons (de_var 1) da_nil)))) (dss_one (ds_ret de_non)) dss_nil) (dss_cons (ds_set (i := 3) sc.nd (de_meth (m := "told") Z (F_told Z) rfl (hr.mono (by omega)) (Or.inr rfl) (de_var 0) (da_cons (de_var 1) da_nil))) (dss_one (ds_ret (de_if (dt_cmp op_eq d2_eqS (de_ix ix_seq d2_ix (de_var 3) de_int) (de_var 2) (nomark _)) (de_var 3) de_non)))))) ?hg
  rintro ⟨ns, rs, s, wd, r⟩ π hp
  simp only at hp
  rcases hp with ⟨h1, h2⟩ | ⟨v, ds, h1, h2⟩
  · simp [and_assoc, spF, h1, h2]
  · by_cases e : v = wd
    · simp [e] at h2
      simp [and_assoc, spF, h1, h2, e]
    · simp [e] at h2
      simp [and_assoc, spF, h1, h2, e]
theorem sc_need_ground : FnScope ["thing"] ["thing"] d_need_ground.scope := ⟨rfl, rfl, rfl, by decide +kernel, rfl, by decide +kernel, by decide +kernel⟩
theorem F_need_ground (Z : Tx P w K mg base) : Fn P w K mg base (GC K) "need_ground" 1 [] (spF (fun a : List Str × List D => [.gnd a.1 a.2]) (fun _ => True) fun _ => .non) := by
  refine fn_p0 Z (k := 0) 30 rfl rfl rfl rfl sc_need_ground (by decide) (fun _ _ _ _ _ _ us hl => match us, hl with | [_], _ => rfl) (fun _ => rfl) (fun f cdv A outer s H E hr => by
    have sc := sc_need_ground
    exact (dss_one (ds_if (dt_not (dt_val (de_callB call_isi (dc_isG Z.insok) rfl Z.f_isinstance rfl (da_cons (de_var 0) (da_cons (de_ga rfl Z.g_Ground) da_nil))))) (dss_one ds_never) dss_nil))) ?hg
  rintro ⟨ns, rs⟩ π hp
  simp [and_assoc]
theorem sc_need_most : FnScope ["most"] ["most"] d_need_most.scope := ⟨rfl, rfl, rfl, by decide +kernel, rfl, by decide +kernel, by decide +kernel⟩
theorem F_need_most (Z : Tx P w K mg base) : Fn P w K mg base (GC K) "need_most" 2 [] (spF (fun a : Int => [.int a]) (fun a => 0 ≤ a ∧ a ≤ 3000) fun _ => .non) := by
  refine fn_p0 Z (k := 1) 43 rfl rfl rfl rfl sc_need_most (by decide) (fun _ _ _ _ _ _ us hl => match us, hl with | [_], _ => rfl) (fun _ => rfl) (fun f cdv A outer s H E hr => by
    have sc := sc_need_most
    exact (dss_one (ds_if (dt_not (dt_val (de_call (F_is_whole Z) (hr.mono (by omega)) (da_cons (de_var 0) (da_cons de_int (da_cons (de_gi rfl Z.i_MOST_STEPS) da_nil)))))) (dss_one ds_never) dss_nil))) ?hg
  rintro n π ⟨h1, h2⟩
  simp [and_assoc, spF, h1, h2]
end
end Kp
set_option maxRecDepth 100000
set_option maxHeartbeats 2000000
/-! A8: what rows ask: own_args and below -/
namespace Kp
open PySem PySem.Spec L2
theorem T.raise_zero : ∀ (t : T) (s : Int), t.raise 0 s = t
  | .var n, s => by simp [T.raise]
  | .leaf l, s => rfl
  | .bin b x y, s => by simp [T.raise, x.raise_zero, y.raise_zero]
  | .tri b x y z, s => by simp [T.raise, x.raise_zero, y.raise_zero, z.raise_zero]
@[simp] theorem rngD_0 (lo : Int) : rngD lo 0 = [] := rfl
@[simp] theorem rngC_0 (lo c : Int) : rngC lo c 0 = [] := rfl
@[simp] theorem lcD_0 {T : Tgt} {f : DTe} {ρ : DEnv} {acc : List D} {π : Pu} {Q : List D → Pu → Prop} : lcD T f ρ [] acc π Q = Q acc π := rfl
@[simp] theorem foD_0 {T : Tgt} {g : DTs} {A : DEnds} {ρ : DEnv} {π : Pu} : foD T g A [] ρ π = A.nx ρ π := rfl
/-- the rows of things whose makers are told -/
def rowNum (s : Str) : D := .tup [.str "thing", .str s, .int 0, .tup [], .tup [.tup [], .tup [toD (tTh s)]]]
def rowBit (s : Str) : D := .tup [.str "thing", .str s, .int 0, .tup [], .tup [.tup [], .tup []]]
@[simp] theorem rn_eq {a b : Str} : (rowNum a = rowNum b) = (a = b) := by simp [rowNum]
@[simp] theorem rn_tup {a : Str} {ds : List D} : (rowNum a = .tup ds) = ([.str "thing", .str a, .int 0, .tup [], .tup [.tup [], .tup [toD (tTh a)]]] = ds) := by simp [rowNum]
@[simp] theorem rn_ix {a : Str} {i : Int} {Q : KD} : kIx (rowNum a) (.int i) Q = ∃ d, atI [.str "thing", .str a, .int 0, .tup [], .tup [.tup [], .tup [toD (tTh a)]]] i = some d ∧ Q d := kIx_tup
@[simp] theorem rn_lst {a : Str} {ds : List D} : (rowNum a = .lst ds) = False := by simp [rowNum]
@[simp] theorem rn_str {a : Str} {ds : Str} : (rowNum a = .str ds) = False := by simp [rowNum]
@[simp] theorem rn_inp {a : Str} {ds : List Int} : (rowNum a = .inp ds) = False := by simp [rowNum]
section
variable {P : Program} {w : World} {K : PySem.W.Frag} {mg : Str → Option Value} {base : Heap}
theorem sc_places_from : FnScope ["first", "many", "number"] ["first", "many"] d_places_from.scope := ⟨rfl, rfl, rfl, by decide +kernel, rfl, by decide +kernel, by decide +kernel⟩
theorem F_places_from (Z : Tx P w K mg base) : Fn P w K mg base (GC K) "places_from" 1 [] (spF (fun a : Int => [.int a, .int 0]) (fun _ => True) fun _ => .lst []) := by
  refine fn_p0 Z (k := 0) 22 rfl rfl rfl rfl sc_places_from (by decide) (fun _ _ _ _ _ _ us hl => match us, hl with | [_, _], _ => rfl) (fun _ => rfl) (fun f cdv A outer s H E hr => by
    have sc := sc_places_from
    exact (dss_one (ds_ret (DL.de (dl_lc rfl sc.nd (di_range1 rfl Z.f_range (da_cons (de_var 1) da_nil)) (blkOk_by (N := ["first", "many", "number"]) (sc := d_places_from.scope) (own := [("number", 2)]) (by decide +kernel)) (by decide) (fun _ _ _ _ _ => (dg_name (i := 2) sc.nd)) (fun _ _ _ _ _ => (de_tup (da_cons de_str (da_cons (de_bin op_sub d2_subI (de_bin op_sub d2_subI (de_bin op_add d2_addI (de_var 0) (de_var 1)) de_int) (de_var 2)) da_nil))))))))) ?hg
  rintro n π hp
  simp [and_assoc]
theorem sc_told_by : FnScope ["row", "binders"] ["row", "binders"] d_told_by.scope := ⟨rfl, rfl, rfl, by decide +kernel, rfl, by decide +kernel, by decide +kernel⟩
theorem F_told_by (Z : Tx P w K mg base) : Fn P w K mg base (GC K) "told_by" 2 [] (spF (fun a : Str × Int => [rowNum a.1, .int a.2]) (fun _ => True) fun a => toD (tTh a.1)) := by
  refine fn_p0 Z (k := 1) 23 rfl rfl rfl rfl sc_told_by (by decide) (fun _ _ _ _ _ _ us hl => match us, hl with | [_, _], _ => rfl) (fun _ => rfl) (fun f cdv A outer s H E hr => by
    have sc := sc_told_by
    exact (dss_one (ds_ret (de_call (F_apply_to Z) (hr.mono (by omega)) (da_cons (de_tup (da_cons de_str (da_cons (de_ix ix_seq d2_ix (de_var 0) de_int) da_nil))) (da_cons (de_call (F_places_from Z) (hr.mono (by omega)) (da_cons (de_var 1) (da_cons (de_callB call_len dc_len rfl Z.f_len rfl (da_cons (de_ix ix_seq d2_ix (de_var 0) de_int) da_nil)) da_nil))) da_nil)))))) ?hg
  rintro ⟨s, n⟩ π hp
  simp [and_assoc, spF, rowNum]
  exact ⟨tTh s, rfl, rfl⟩
theorem sc_between_in : FnScope ["saying", "found", "end"] ["saying"] d_between_in.scope := ⟨rfl, rfl, rfl, by decide +kernel, rfl, by decide +kernel, by decide +kernel⟩
theorem F_between_in (Z : Tx P w K mg base) : Fn P w K mg base (GC K) "between_in" 1 [] (spF (fun s : Str => [toD (tTh s)]) (fun _ => True) fun s => .tup [.lst [], toD (tTh s)]) := by
  refine fn_p0 Z (k := 0) 25 rfl rfl rfl rfl sc_between_in (by decide) (fun _ _ _ _ _ _ us hl => match us, hl with | [_], _ => rfl) (fun _ => rfl) (fun f cdv A outer s H E hr => by
    have sc := sc_between_in
    exact (dss_cons (ds_own (i := 1) sc.nd (dl_lst da_nil)) (dss_cons (ds_set (i := 2) sc.nd (de_var 0)) (dss_cons (ds_while (dt_cmp op_eq d2_eqS (de_ix ix_seq d2_ix (de_var 2) de_int) de_str (nomark _)) (dss_cons (ds_append 1 (de_ix ix_seq d2_ix (de_var 2) de_int)) (dss_one (ds_set (i := 2) sc.nd (de_ix ix_seq d2_ix (de_var 2) de_int))))) (dss_one (ds_frz 1 (ds_ret (de_tup (da_cons (de_var 1) (da_cons (de_var 2) da_nil)))))))))) ?hg
  rintro s π hp
  simp [and_assoc]
  refine ⟨1, ?_⟩
  simp [whD, and_assoc]
theorem sc_own_spots : FnScope ["row", "term", "found", "spot", "part"] ["row", "term"] d_own_spots.scope := ⟨rfl, rfl, rfl, by decide +kernel, rfl, by decide +kernel, by decide +kernel⟩
theorem F_own_spots (Z : Tx P w K mg base) : Fn P w K mg base (GC K) "own_spots" 4 [] (spF (fun s : Str => [rowNum s, toD (tTh s)]) (fun _ => True) fun s => .lst [spD []]) := by
  have h := (F_spots_in Z 1 (by omega)).up (show 2 ≤ 3 by omega)
  refine fn_p0 Z (k := 3) 24 rfl rfl rfl rfl sc_own_spots (by decide) (fun _ _ _ _ _ _ us hl => match us, hl with | [_, _], _ => rfl) (fun _ => rfl) (fun f cdv A outer s H E hr => by
    have sc := sc_own_spots
    exact (dss_cons (ds_own (i := 2) sc.nd (dl_lst da_nil)) (dss_cons (ds_for (di_list (de_call (h) (hr.mono (by omega)) (da_cons (de_var 1) da_nil))) (dg_name (i := 3) sc.nd) (dss_cons (ds_set (i := 4) sc.nd (de_ix ix_seq d2_ix (de_call (F_gone_to Z) (hr.mono (by omega)) (da_cons (de_var 1) (da_cons (de_var 3) da_nil))) de_int)) (dss_one (ds_if (DW.dt (dw_and (dt_cmp op_in_seq (d2_inT false) (de_ix ix_seq d2_ix (de_var 4) de_int) (de_HEADS Z rfl) rfl) (dw_and1 (dt_cmp op_eq d2_eqS (de_ix ix_seq d2_ix (de_var 4) de_int) (de_ix ix_seq d2_ix (de_var 0) de_int) (nomark _))))) (dss_one (ds_append 2 (de_var 3))) dss_nil)))) (dss_one (ds_frz 2 (ds_ret (de_var 2))))))) ?hg
  rintro s π hp
  simp [and_assoc, spF, rowNum]
  refine ⟨by simp [T.sz], ?_⟩
  simp [T.spots, foD, and_assoc, spF, T.part]
theorem sc_good_spots : FnScope ["row", "number", "saying", "between", "end"] ["row", "number", "saying"] d_good_spots.scope := ⟨rfl, rfl, rfl, by decide +kernel, rfl, by decide +kernel, by decide +kernel⟩
theorem F_good_spots (Z : Tx P w K mg base) : Fn P w K mg base (GC K) "good_spots" 3 [] (spF (fun a : Str × Int => [rowNum a.1, .int a.2, toD (tTh a.1)]) (fun a => okName a.1) fun _ => .lst [spD []]) := by
  refine fn_p0 Z (k := 2) 26 rfl rfl rfl rfl sc_good_spots (by decide) (fun _ _ _ _ _ _ us hl => match us, hl with | [_, _, _], _ => rfl) (fun _ => rfl) (fun f cdv A outer s H E hr => by
    have sc := sc_good_spots
    exact (dss_cons (ds_asg (de_call (F_between_in Z) (hr.mono (by omega)) (da_cons (de_var 2) da_nil)) (dg_tup rfl (dgs_cons (i := 3) sc.nd (dgs_cons (i := 4) sc.nd dgs_nil)))) (dss_cons (ds_if (dt_cmp (op_neD hr.units) d2_neD (de_var 4) (de_call (F_told_by Z) (hr.mono (by omega)) (da_cons (de_var 0) (da_cons (de_bin op_add d2_addI (de_var 1) (de_callB call_len dc_len rfl Z.f_len rfl (da_cons (de_var 3) da_nil))) da_nil))) (nomark _)) (dss_one (ds_ret (de_lst da_nil))) dss_nil) (dss_one (ds_ret (de_lst (da_cons (de_bin op_catA d2_catT (de_bin op_rep0 d2_rep0 (de_tup (da_cons de_int da_nil)) (de_callB call_len dc_len rfl Z.f_len rfl (da_cons (de_var 3) da_nil))) (de_bin op_rep0 d2_rep0 (de_tup (da_cons de_int da_nil)) (de_callB call_len dc_len rfl Z.f_len rfl (da_cons (de_ix ix_seq d2_ix (de_var 0) de_int) da_nil)))) da_nil))))))) ?hg
  rintro ⟨s, n⟩ π hp
  simp only at hp
  simp [and_assoc, spF, rowNum]
  have h1 : dat (toD (tTh s)) = true := T.dat (t := tTh s) hp
  simp [h1, T.depD, eqd_toD, spD]
theorem sc_ungrown_in : FnScope ["row", "number", "saying", "good", "spot"] ["row", "number", "saying"] d_ungrown_in.scope := ⟨rfl, rfl, rfl, by decide +kernel, rfl, by decide +kernel, by decide +kernel⟩
theorem F_ungrown_in (Z : Tx P w K mg base) : Fn P w K mg base (GC K) "ungrown_in" 5 [] (spF (fun a : Str × Int => [rowNum a.1, .int a.2, toD (tTh a.1)]) (fun a => okName a.1) fun _ => .non) := by
  refine fn_p0 Z (k := 4) 27 rfl rfl rfl rfl sc_ungrown_in (by decide) (fun _ _ _ _ _ _ us hl => match us, hl with | [_, _, _], _ => rfl) (fun _ => rfl) (fun f cdv A outer s H E hr => by
    have sc := sc_ungrown_in
    exact (dss_cons (ds_set (i := 3) sc.nd (de_call (F_good_spots Z) (hr.mono (by omega)) (da_cons (de_var 0) (da_cons (de_var 1) (da_cons (de_var 2) da_nil))))) (dss_cons (ds_for (di_list (de_call (F_own_spots Z) (hr.mono (by omega)) (da_cons (de_var 0) (da_cons (de_var 2) da_nil)))) (dg_name (i := 4) sc.nd) (dss_one (ds_if (dt_cmp (op_notInD hr.units1) d2_notInD (de_var 4) (de_var 3) rfl) (dss_one (ds_ret (de_var 4))) dss_nil))) (dss_one (ds_ret de_non))))) ?hg
  rintro ⟨s, n⟩ π hp
  simp only at hp
  simp [and_assoc, spF]
  simp [foD, and_assoc, hp, dat, dats, dep, deps]
theorem sc_own_args : FnScope ["row", "maker", "found", "number", "saying"] ["row", "maker"] d_own_args.scope := ⟨rfl, rfl, rfl, by decide +kernel, rfl, by decide +kernel, by decide +kernel⟩
theorem F_own_args (Z : Tx P w K mg base) : Fn P w K mg base (GC K) "own_args" 6 [] (spF (fun a : Str × D × Int × D => [a.2.1, .int a.2.2.1]) (fun a => okName a.1 ∧ ((a.2.1 = rowNum a.1 ∧ ((a.2.2.1 = 0 ∧ a.2.2.2 = .lst []) ∨ (a.2.2.1 = 1 ∧ a.2.2.2 = .lst [.tup [.int 0, .lst []]]))) ∨ (a.2.1 = rowBit a.1 ∧ (a.2.2.1 = 0 ∨ a.2.2.1 = 1) ∧ a.2.2.2 = .lst []))) fun a => a.2.2.2) := by
  refine fn_p0 Z (k := 5) 28 rfl rfl rfl rfl sc_own_args (by decide) (fun _ _ _ _ _ _ us hl => match us, hl with | [_, _], _ => rfl) (fun _ => rfl) (fun f cdv A outer s H E hr => by
    have sc := sc_own_args
    exact (dss_cons (ds_own (i := 2) sc.nd (dl_lst da_nil)) (dss_cons (ds_for (di_enumT rfl Z.f_enumerate (da_cons (de_ix ix_seq d2_ix (de_ix ix_seq d2_ix (de_var 0) de_int) (de_var 1)) da_nil)) (dg_tup rfl (dgs_cons (i := 3) sc.nd (dgs_cons (i := 4) sc.nd dgs_nil))) (dss_one (ds_if (DW.dt (dw_and (dt_cmp (op_neD hr.units) d2_neD (de_call (F_own_spots Z) (hr.mono (by omega)) (da_cons (de_var 0) (da_cons (de_var 4) da_nil))) (de_lst da_nil) (nomark _)) (dw_and1 (dt_cmp op_isN d2_isN (de_call (F_ungrown_in Z) (hr.mono (by omega)) (da_cons (de_var 0) (da_cons (de_var 3) (da_cons (de_var 4) da_nil)))) de_non (nomark _))))) (dss_one (ds_append 2 (de_tup (da_cons (de_var 3) (da_cons (de_ix ix_seq d2_ix (de_call (F_between_in Z) (hr.mono (by omega)) (da_cons (de_var 4) da_nil)) de_int) da_nil))))) dss_nil))) (dss_one (ds_frz 2 (ds_ret (de_var 2))))))) ?hg
  rintro ⟨s, r, k, res⟩ π ⟨hs, hp⟩
  simp only at hs hp
  rcases hp with ⟨e1, ⟨e2, e3⟩ | ⟨e2, e3⟩⟩ | ⟨e1, e2 | e2, e3⟩ <;> subst e1 e2 e3
  · simp [and_assoc, spF, rowNum]
  · simp [and_assoc, spF, foD, hs, dat, dats, dep, deps]
  · simp [and_assoc, spF, rowBit]
  · simp [and_assoc, spF, rowBit]
theorem sc_eaten_own : FnScope ["eater", "ahead", "own", "between", "many", "inside", "k", "found", "number"] ["eater", "ahead", "own", "between"] d_eaten_own.scope := ⟨rfl, rfl, rfl, by decide +kernel, rfl, by decide +kernel, by decide +kernel⟩
theorem F_eaten_own (Z : Tx P w K mg base) : Fn P w K mg base (GC K) "eaten_own" 63 [] (spF (fun a : T × D × T => [toD a.1, a.2.1, toD a.2.2, .lst []]) (fun a => (a.1.ok ∧ a.1.dp ≤ 61) ∧ a.2.2.ok ∧ a.2.2.dp ≤ 61) fun a => toD (tAp a.1 a.2.2)) := by
  refine fn_p0 Z (k := 62) 33 rfl rfl rfl rfl sc_eaten_own (by decide) (fun _ _ _ _ _ _ us hl => match us, hl with | [_, _, _, _], _ => rfl) (fun _ => rfl) (fun f cdv A outer s H E hr => by
    have sc := sc_eaten_own
    exact (dss_cons (ds_set (i := 4) sc.nd (de_callB call_len dc_len rfl Z.f_len rfl (da_cons (de_var 3) da_nil))) (dss_cons (ds_set (i := 5) sc.nd (de_call (F_apply_to Z) (hr.mono (by omega)) (da_cons (de_call (F_raise_in Z 61 (by omega)) (hr.mono (by omega)) (da_cons (de_var 2) (da_cons (de_var 4) (da_cons de_int da_nil)))) (da_cons (DL.de (dl_lc rfl sc.nd (di_range1 rfl Z.f_range (da_cons (de_var 4) da_nil)) (blkOk_by (N := ["eater", "ahead", "own", "between", "many", "inside", "k", "found", "number"]) (sc := d_eaten_own.scope) (own := [("k", 6)]) (by decide +kernel)) (by decide) (fun _ _ _ _ _ => (dg_name (i := 6) sc.nd)) (fun _ _ _ _ _ => (de_tup (da_cons de_str (da_cons (de_bin op_sub d2_subI (de_bin op_sub d2_subI (de_var 4) de_int) (de_var 6)) da_nil)))))) da_nil)))) (dss_cons (ds_set (i := 7) sc.nd (de_tup (da_cons de_str (da_cons (de_call (F_raise_in Z 61 (by omega)) (hr.mono (by omega)) (da_cons (de_var 0) (da_cons (de_var 4) (da_cons de_int da_nil)))) (da_cons (de_var 5) da_nil))))) (dss_cons (ds_for (di_range3 rfl Z.f_range (da_cons (de_bin op_sub d2_subI (de_var 4) de_int) (da_cons de_neg (da_cons de_neg da_nil)))) (dg_name (i := 8) sc.nd) (dss_one ds_never)) (dss_one (ds_ret (de_var 7)))))))) ?hg
  rintro ⟨e, d, o⟩ π ⟨⟨h1, h2⟩, h3, h4⟩
  simp only at h1 h2 h3 h4
  simp [and_assoc, spF]
  exact ⟨h3, h4, h1, h2, T.raise_zero _ _, T.raise_zero _ _⟩
end
end Kp
set_option maxRecDepth 100000
set_option maxHeartbeats 2000000
/-! M3: the world as data -/
namespace Kp
open PySem PySem.Spec L2
def thD (s : Str) (bs : List T) (ms : List (List T)) : D := .tup [.str "thing", .str s, .int 0, .tup (bs.map toD), .tup (ms.map fun m => .tup (m.map toD))]
def meD (s : Str) (a b : T) : D := .tup [.str "mean", .str s, toD a, toD b]
def hoD (s : Str) (a : T) : D := .tup [.str "hold", .str s, toD a]
def wRows (N : Nm) : List D := [thD N.num [] [[], [tTh N.num]], thD N.bit [] [[], []], thD N.none [] [], thD N.both [tKd 0, tKd 0] [[.var 1, .var 1]], thD N.either [tKd 0, tKd 0] [[.var 1], [.var 0]],
  thD N.line [tKd 0] [[], [.var 0, tAp (tTh N.line) (.var 1)]], thD N.tree [] [[], [tAl (tTh N.num) (tTh N.tree)]], meD N.two (tTh N.num) (numT N 2), meD N.flip (tAl (tTh N.bit) (tTh N.bit)) (flipT N), hoD N.held (tAl (tTh N.num) (tTh N.num))]
def gD (N : Nm) : D := .gnd N.all (wRows N)
def meanRow (N : Nm) (s : Str) : D := if s = N.two then meD N.two (tTh N.num) (numT N 2) else if s = N.flip then meD N.flip (tAl (tTh N.bit) (tTh N.bit)) (flipT N) else .non
@[simp] theorem rowAt_hit {n : Str} {ns : List Str} {d : D} {ds : List D} : rowAt (n :: ns) (d :: ds) n = some d := by simp [rowAt]
theorem rowAt_miss {s n : Str} {ns : List Str} {d : D} {ds : List D} (h : ¬ s = n) : rowAt (n :: ns) (d :: ds) s = rowAt ns ds s := by
  have : (s == n) = false := by simpa using h
  simp [rowAt, List.lookup_cons, this]
@[simp] theorem rowAt_nil {s : Str} : rowAt [] [] s = none := rfl
/-- what row_of asks -/
def rowPre (ns : List Str) (rs : List D) (s wd : Str) (r : D) : Prop := (rowAt ns rs s = none ∧ r = .non) ∨ ∃ v ds, rowAt ns rs s = some (.tup (.str v :: ds)) ∧ r = if v = wd then .tup (.str v :: ds) else .non
theorem row_mean {N : Nm} (h : N.Ok) (s : Str) : rowPre N.all (wRows N) s "mean" (meanRow N s) := by
  have nd := h.nd
  simp only [Nm.all, List.nodup_cons, List.mem_cons, List.not_mem_nil, not_or, not_false_eq_true, or_false] at nd
  obtain ⟨⟨a1, a2, a3, a4, a5, a6, a7, a8, a9⟩, ⟨b1, b2, b3, b4, b5, b6, b7, b8⟩, ⟨c1, c2, c3, c4, c5, c6, c7⟩, ⟨d1, d2, d3, d4, d5, d6⟩, ⟨e1, e2, e3, e4, e5⟩, ⟨f1, f2, f3, f4⟩, ⟨g1, g2, g3⟩, ⟨h1, h2⟩, i1, _⟩ := nd
  unfold rowPre meanRow wRows Nm.all
  by_cases k1 : s = N.num
  · subst k1; simp [and_assoc, rowAt_miss, thD, a7, a8]
  by_cases k2 : s = N.bit
  · subst k2; simp [and_assoc, rowAt_miss, thD, k1, b6, b7]
  by_cases k3 : s = N.none
  · subst k3; simp [and_assoc, rowAt_miss, thD, k1, k2, c5, c6]
  by_cases k4 : s = N.both
  · subst k4; simp [and_assoc, rowAt_miss, thD, k1, k2, k3, d4, d5]
  by_cases k5 : s = N.either
  · subst k5; simp [and_assoc, rowAt_miss, thD, k1, k2, k3, k4, e3, e4]
  by_cases k6 : s = N.line
  · subst k6; simp [and_assoc, rowAt_miss, thD, k1, k2, k3, k4, k5, f2, f3]
  by_cases k7 : s = N.tree
  · subst k7; simp [and_assoc, rowAt_miss, thD, k1, k2, k3, k4, k5, k6, g1, g2]
  by_cases k8 : s = N.two
  · subst k8; simp [and_assoc, rowAt_miss, meD, k1, k2, k3, k4, k5, k6, k7]
  by_cases k9 : s = N.flip
  · subst k9; simp [and_assoc, rowAt_miss, meD, k1, k2, k3, k4, k5, k6, k7, k8]
  by_cases k10 : s = N.held
  · subst k10; simp [and_assoc, rowAt_miss, hoD, k1, k2, k3, k4, k5, k6, k7, k8, k9]
  simp [and_assoc, rowAt_miss, k1, k2, k3, k4, k5, k6, k7, k8, k9, k10]
theorem row_num {N : Nm} (h : N.Ok) : rowPre N.all (wRows N) N.num "thing" (rowNum N.num) := by
  unfold rowPre wRows Nm.all
  simp [and_assoc, rowAt_miss, thD, rowNum]
theorem row_bit {N : Nm} (h : N.Ok) : rowPre N.all (wRows N) N.bit "thing" (rowBit N.bit) := by
  have nd := h.nd
  simp only [Nm.all, List.nodup_cons, List.mem_cons, List.not_mem_nil, not_or, not_false_eq_true, or_false] at nd
  have : ¬ N.bit = N.num := fun z => nd.1.1 z.symm
  unfold rowPre wRows Nm.all
  simp [and_assoc, rowAt_miss, thD, rowBit, this]
section
variable {P : Program} {w : World} {K : PySem.W.Frag} {mg : Str → Option Value} {base : Heap}
theorem F_row (Z : Tx P w K mg base) : Fn P w K mg base (GC K) "row_of" 3 [] (spF (fun a : List Str × List D × Str × Str × D => [.gnd a.1 a.2.1, .str a.2.2.1, .str a.2.2.2.1]) (fun a => rowPre a.1 a.2.1 a.2.2.1 a.2.2.2.1 a.2.2.2.2) fun a => a.2.2.2.2) := F_row_of Z
end
end Kp
set_option maxRecDepth 100000
set_option maxHeartbeats 2000000
/-! A4: give_in -/
namespace Kp
open PySem PySem.Spec L2
section
variable {P : Program} {w : World} {K : PySem.W.Frag} {mg : Str → Option Value} {base : Heap}
abbrev sp_give (d : Nat) : SpecD := spF (fun a : T × T × Int × Int => [toD a.1, toD a.2.1, .int a.2.2.1, .int a.2.2.2]) (fun a => (a.1.ok ∧ a.1.dp ≤ d) ∧ a.2.1.ok ∧ a.2.1.dp ≤ 61) fun a => toD (a.1.give a.2.1 a.2.2.1 a.2.2.2)
theorem sc_give_in : FnScope ["term", "other", "number", "binders", "some", "k", "part"] ["term", "other", "number", "binders"] d_give_in.scope := ⟨rfl, rfl, rfl, by decide +kernel, rfl, by decide +kernel, by decide +kernel⟩
theorem F_give_in_of (Z : Tx P w K mg base) {k d : Nat} (hd : d ≤ 62) (h : Fn P w K mg base (GC K) "give_in" (k + 62) [] (sp_give d)) : Fn P w K mg base (GC K) "give_in" (k + 63) [] (sp_give (d + 1)) := by
  refine fn_pd Z (k := (k+62)) 14 rfl rfl rfl sc_give_in (by decide) (fun fd F => bind_w1 4 rfl F rfl fun T kV doc pm an cdv ct us its h1 h2 => match us, h1, its, h2 with | [_, _, _, _], _, [_], _ => ⟨_, rfl, rfl⟩) (fun _ => rfl) (fun f cdv A outer s H E hr => by
    have sc := sc_give_in
    exact (dss_cons (ds_if (dt_cmp op_eq d2_eqS (de_ix ix_seq d2_ix (de_var 0) de_int) de_str (nomark _)) (dss_cons (ds_if (dt_cmp op_eq d2_eqS (de_ix ix_seq d2_ix (de_var 0) de_int) (de_bin op_add d2_addI (de_var 2) (de_var 3)) (nomark _)) (dss_one (ds_ret (de_call (F_raise_in Z 61 (by omega)) (hr.mono (by omega)) (da_cons (de_var 1) (da_cons (de_var 3) (da_cons de_int da_nil)))))) dss_nil) (dss_one (ds_ret (de_if (dt_cmp op_gt d2_gt (de_ix ix_seq d2_ix (de_var 0) de_int) (de_bin op_add d2_addI (de_var 2) (de_var 3)) (nomark _)) (de_tup (da_cons de_str (da_cons (de_bin op_sub d2_subI (de_ix ix_seq d2_ix (de_var 0) de_int) de_int) da_nil))) (de_var 0))))) dss_nil) (dss_cons (ds_set (i := 4) sc.nd (DL.de (de_callL (F_inner Z) (hr.mono (by omega)) (da_cons (de_var 0) da_nil)))) (dss_cons (ds_if (dt_cmp (op_eqD hr.units) d2_eqD (de_var 4) (de_lst da_nil) (nomark _)) (dss_one (ds_ret (de_var 0))) dss_nil) (dss_one (ds_ret (de_call (F_with_parts Z) (hr.mono (by omega)) (da_cons (de_var 0) (da_cons (DL.de (dl_lc rfl sc.nd (di_enum rfl Z.f_enumerate (da_cons (de_var 4) da_nil)) (blkOk_by (N := ["term", "other", "number", "binders", "some", "k", "part"]) (sc := d_give_in.scope) (own := [("k", 5), ("part", 6)]) (by decide +kernel)) (by decide) (fun _ _ _ _ _ => (dg_tup rfl (dgs_cons (i := 5) sc.nd (dgs_cons (i := 6) sc.nd dgs_nil)))) (fun _ _ _ _ _ => (de_call (h) (hr.mono (by omega)) (da_cons (de_var 6) (da_cons (de_var 1) (da_cons (de_var 2) (da_cons (de_bin op_add d2_addI (de_var 3) (de_call (F_binds Z) (hr.mono (by omega)) (da_cons (de_var 0) (da_cons (de_var 5) da_nil)))) da_nil)))))))) da_nil))))))))) ?hg
  rintro ⟨t, o, n, b⟩ π ⟨⟨h1, h2⟩, h8, h9⟩
  simp only at h1 h2 h8 h9
  cases t with
  | var m =>
    by_cases hn : m = n + b
    · simp [and_assoc, T.give, hn, spF, h8, h9]
    · by_cases hm : n + b < m
      · simp [and_assoc, T.give, hn, hm]
      · simp [and_assoc, T.give, hn, hm]; omega
  | leaf l => cases l <;> simp [and_assoc, T.give, spL, dat, dats, dep, deps]
  | bin c x y =>
    simp at h1 h2
    obtain ⟨h3, h4⟩ := Nat.max_le.mp h2
    have h5 : max (x.dp) y.dp ≤ 63 := by omega
    cases c <;> simp [and_assoc, lcD, spF, spL, T.give, h1, h3, h4, h5, h8, h9, dat, dats, dep, deps, T.dat, T.depD]
  | tri c x y z =>
    simp at h1 h2
    obtain ⟨h3, h4⟩ := Nat.max_le.mp h2
    obtain ⟨h4, h6⟩ := Nat.max_le.mp h4
    have h5 : max x.dp (max y.dp z.dp) ≤ 63 := by omega
    cases c <;> simp [and_assoc, lcD, spF, spL, T.give, h1, h3, h4, h5, h6, h8, h9, dat, dats, dep, deps, T.dat, T.depD]
theorem F_give_in (Z : Tx P w K mg base) : ∀ d : Nat, d ≤ 62 → Fn P w K mg base (GC K) "give_in" (d + 62) [] (sp_give d)
  | 0, _ => by
    refine fn_voidd Z 14 rfl rfl rfl (ps := ["term", "other", "number", "binders"]) (fun fd F => bind_w1 4 rfl F rfl fun T kV doc pm an cdv ct us its h1 h2 => match us, h1, its, h2 with | [_, _, _, _], _, [_], _ => ⟨_, rfl, rfl⟩) ?_
    rintro ds π Q ⟨⟨t, _⟩, e, ⟨⟨h1, h2⟩, _⟩, q⟩
    have := t.dp_pos
    simp only at h2
    omega
  | d + 1, h => F_give_in_of Z (k := d) (by omega) (F_give_in Z d (by omega))
abbrev sp_give0 (d : Nat) : SpecD := spF (fun a : T × T × Int => [toD a.1, toD a.2.1, .int a.2.2, .int 0]) (fun a => (a.1.ok ∧ a.1.dp ≤ d) ∧ a.2.1.ok ∧ a.2.1.dp ≤ 61) fun a => toD (a.1.give a.2.1 a.2.2 0)
theorem F_give0 (Z : Tx P w K mg base) {d : Nat} (hd : d ≤ 61) : Fn P w K mg base (GC K) "give_in" (d + 63) [.int 0] (sp_give0 (d + 1)) := by
  have h := F_give_in Z d (by omega)
  refine fn_pd Z (k := (d+62)) 14 rfl rfl rfl sc_give_in (by decide) (fun fd F => bind_w0 3 rfl F rfl fun T kV doc pm an cdv ct us its h1 h2 => match us, h1, its, h2 with | [_, _, _], _, [_], _ => ⟨_, rfl, rfl⟩) (fun _ => rfl) (fun f cdv A outer s H E hr => by
    have sc := sc_give_in
    exact (dss_cons (ds_if (dt_cmp op_eq d2_eqS (de_ix ix_seq d2_ix (de_var 0) de_int) de_str (nomark _)) (dss_cons (ds_if (dt_cmp op_eq d2_eqS (de_ix ix_seq d2_ix (de_var 0) de_int) (de_bin op_add d2_addI (de_var 2) (de_var 3)) (nomark _)) (dss_one (ds_ret (de_call (F_raise_in Z 61 (by omega)) (hr.mono (by omega)) (da_cons (de_var 1) (da_cons (de_var 3) (da_cons de_int da_nil)))))) dss_nil) (dss_one (ds_ret (de_if (dt_cmp op_gt d2_gt (de_ix ix_seq d2_ix (de_var 0) de_int) (de_bin op_add d2_addI (de_var 2) (de_var 3)) (nomark _)) (de_tup (da_cons de_str (da_cons (de_bin op_sub d2_subI (de_ix ix_seq d2_ix (de_var 0) de_int) de_int) da_nil))) (de_var 0))))) dss_nil) (dss_cons (ds_set (i := 4) sc.nd (DL.de (de_callL (F_inner Z) (hr.mono (by omega)) (da_cons (de_var 0) da_nil)))) (dss_cons (ds_if (dt_cmp (op_eqD hr.units) d2_eqD (de_var 4) (de_lst da_nil) (nomark _)) (dss_one (ds_ret (de_var 0))) dss_nil) (dss_one (ds_ret (de_call (F_with_parts Z) (hr.mono (by omega)) (da_cons (de_var 0) (da_cons (DL.de (dl_lc rfl sc.nd (di_enum rfl Z.f_enumerate (da_cons (de_var 4) da_nil)) (blkOk_by (N := ["term", "other", "number", "binders", "some", "k", "part"]) (sc := d_give_in.scope) (own := [("k", 5), ("part", 6)]) (by decide +kernel)) (by decide) (fun _ _ _ _ _ => (dg_tup rfl (dgs_cons (i := 5) sc.nd (dgs_cons (i := 6) sc.nd dgs_nil)))) (fun _ _ _ _ _ => (de_call (h) (hr.mono (by omega)) (da_cons (de_var 6) (da_cons (de_var 1) (da_cons (de_var 2) (da_cons (de_bin op_add d2_addI (de_var 3) (de_call (F_binds Z) (hr.mono (by omega)) (da_cons (de_var 0) (da_cons (de_var 5) da_nil)))) da_nil)))))))) da_nil))))))))) ?hg
  rintro ⟨t, o, n⟩ π ⟨⟨h1, h2⟩, h8, h9⟩
  simp only at h1 h2 h8 h9
  cases t with
  | var m =>
    by_cases hn : m = n
    · simp [and_assoc, T.give, hn, spF, h8, h9]
    · by_cases hm : n < m
      · simp [and_assoc, T.give, hn, hm]
      · simp [and_assoc, T.give, hn, hm]; omega
  | leaf l => cases l <;> simp [and_assoc, T.give, spL, dat, dats, dep, deps]
  | bin c x y =>
    simp at h1 h2
    obtain ⟨h3, h4⟩ := Nat.max_le.mp h2
    have h5 : max (x.dp) y.dp ≤ 63 := by omega
    cases c <;> simp [and_assoc, lcD, spF, spL, T.give, h1, h3, h4, h5, h8, h9, dat, dats, dep, deps, T.dat, T.depD]
  | tri c x y z =>
    simp at h1 h2
    obtain ⟨h3, h4⟩ := Nat.max_le.mp h2
    obtain ⟨h4, h6⟩ := Nat.max_le.mp h4
    have h5 : max x.dp (max y.dp z.dp) ≤ 63 := by omega
    cases c <;> simp [and_assoc, lcD, spF, spL, T.give, h1, h3, h4, h5, h6, h8, h9, dat, dats, dep, deps, T.dat, T.depD]
end
end Kp
set_option maxRecDepth 100000
set_option maxHeartbeats 4000000
local macro_rules | `(tactic| walk_at "kpe") => `(tactic| repeat (first | (apply_rules (transparency := .reducible) (exfalso := false) (symm := false) (maxDepth := 1000) only [Kp.x_seq, Kp.x_next, Kp.x_ert, Kp.x_enx, Kp.x_ret, Kp.x_drop, Kp.x_asg, Kp.x_one, Kp.x_par, Kp.x_ifS, Kp.x_for, Kp.x_fo0, Kp.x_fo1, Kp.x_own, Kp.x_setL, Kp.x_c, Kp.x_nil, Kp.x_cons, Kp.x_tup, Kp.x_lst, Kp.x_bin, Kp.x_tst, Kp.x_exb, Kp.x_exi, Kp.x_exs, Kp.x_exl, Kp.x_ext2, Kp.x_1l, Kp.x_1t, Kp.x_1i, Kp.x_2i, Kp.x_ex1, Kp.x_ex2, Kp.x_and, Kp.x_or, Kp.x_not, Kp.x_if, Kp.x_ifL, Kp.x_andV, Kp.x_orV, Kp.x_notV, Kp.x_isi2, Kp.x_call, Kp.x_nop, Kp.x_part, Kp.x_sl, Kp.x_ownF, Kp.x_ownL, Kp.x_asL, Kp.x_lc, Kp.x_seL, Kp.x_seT, Kp.x_enL, Kp.x_enT, Kp.x_rng1, Kp.x_rng2, Kp.x_pset, Kp.x_meth, Kp.x_gnd, Kp.x_I0, Kp.x_eqI, Kp.x_eqS, Kp.x_isN, Kp.x_inT, Kp.x_in2, Kp.x_in5, Kp.x_slT, Kp.x_slL, Kp.x_int, Kp.x_listT, Kp.x_listL, Kp.x_tuple, Kp.x_max, Kp.x_min, Kp.x_rep0, Kp.x_rep2]) | refine Kp.x_many rfl ?_ | refine Kp.x_manyL rfl ?_ | refine Kp.x_var rfl ?_ | refine Kp.x_few (Nat.le_of_ble_eq_true rfl) ?_ | refine Kp.x_ixT rfl ?_ | refine Kp.x_ixL rfl ?_ | refine Kp.x_ixD rfl rfl ?_ | refine Kp.x_slD rfl ?_ | refine Kp.x_len rfl (Nat.le_of_ble_eq_true rfl) ?_ | refine Kp.x_lenO rfl (Nat.le_of_ble_eq_true rfl) ?_ | refine Kp.x_pix rfl rfl ?_ | refine Kp.x_catL (Nat.le_of_ble_eq_true rfl) ?_ | refine Kp.x_catT (Nat.le_of_ble_eq_true rfl) ?_ | refine Kp.x_catS (Nat.le_of_ble_eq_true rfl) ?_ | refine Kp.x_app rfl (Nat.lt_of_lt_of_le (Nat.lt_succ_self _) (Nat.le_of_ble_eq_true rfl)) ?_ | refine Kp.x_ext rfl ?_ | (refine Kp.x_isi ?_ ?_; focus (first | rfl | (simp; done))) | (refine Kp.x_if_t ?_ ?_; focus (first | rfl | (simp; done))) | (refine Kp.x_if_f ?_ ?_; focus (first | rfl | (simp; done)))))
/-! A9: eaten, gone -/
namespace Kp
open PySem PySem.Spec L2
@[simp] theorem cutD_0 (ds : List D) : cutD ds (some 0) none = ds := cutD_from ds 0
@[simp] theorem cutD_to0 (ds : List D) : cutD ds none (some 0) = [] := cutD_to ds 0
@[simp] theorem cutD_m4 (a b c d : D) : cutD [a, b, c, d] none (some (-1)) = [a, b, c] := cutD_last [a, b, c, d]
@[simp] theorem atI_m4 (a b c d : D) : atI [a, b, c, d] (-1) = some d := atI_last [a, b, c, d]
def optD (o : Option T) : D := match o with
  | none => .non
  | some u => toD u
theorem T.open_dp : ∀ t : T, t.open.1.dp ≤ t.dp ∧ (∀ u ∈ t.open.2, u.dp + 1 ≤ t.dp) ∧ t.open.2.length + t.open.1.dp ≤ t.dp
  | .var n => by simp [T.open]
  | .leaf l => by simp [T.open]
  | .tri b x y z => by simp [T.open]
  | .bin b x y => by
    cases b with
    | ap =>
      obtain ⟨h1, h2, h3⟩ := x.open_dp
      simp only [T.open, T.dp, List.mem_append, List.mem_singleton, List.length_append, List.length_singleton]
      refine ⟨by omega, fun u hu => ?_, by omega⟩
      rcases hu with hu | hu
      · have := h2 u hu; omega
      · subst hu; omega
    | al => simp [T.open]
    | fn => simp [T.open]
    | sf => simp [T.open]
theorem T.open_ok : ∀ {t : T}, t.ok → t.open.1.ok ∧ ∀ u ∈ t.open.2, u.ok
  | .var n, h => by simpa [T.open] using h
  | .leaf l, h => by simpa [T.open] using h
  | .tri b x y z, h => by simpa [T.open] using h
  | .bin b x y, h => by
    cases b with
    | ap =>
      obtain ⟨h1, h2⟩ := T.open_ok h.1
      simp only [T.open, List.mem_append, List.mem_singleton]
      refine ⟨h1, fun u hu => ?_⟩
      rcases hu with hu | hu
      · exact h2 u hu
      · subst hu; exact h.2
    | al => simpa [T.open] using h
    | fn => simpa [T.open] using h
    | sf => simpa [T.open] using h
theorem T.open_eats {N : Nm} : ∀ {t : T}, t.eats N → t.open.1.eats N ∧ ∀ u ∈ t.open.2, u.eats N
  | .var n, h => by simp [T.open, T.eats]
  | .leaf l, h => by
    have : (T.leaf l).open = (.leaf l, []) := rfl
    rw [this]; exact ⟨h, by simp⟩
  | .tri b x y z, h => by
    have : (T.tri b x y z).open = (.tri b x y z, []) := rfl
    rw [this]; exact ⟨h, by simp⟩
  | .bin b x y, h => by
    cases b with
    | ap =>
      obtain ⟨h1, h2⟩ := T.open_eats h.1
      simp only [T.open, List.mem_append, List.mem_singleton]
      refine ⟨h1, fun u hu => ?_⟩
      rcases hu with hu | hu
      · exact h2 u hu
      · subst hu; exact h.2
    | al => exact ⟨h, by simp [T.open]⟩
    | fn => exact ⟨h, by simp [T.open]⟩
    | sf => exact ⟨h, by simp [T.open]⟩
section
variable {P : Program} {w : World} {K : PySem.W.Frag} {mg : Str → Option Value} {base : Heap}
theorem sc_eaten : FnScope ["ground", "term", "head", "some", "row", "maker", "held", "bounds", "args", "found", "number", "between", "ahead"] ["ground", "term"] d_eaten.scope := ⟨rfl, rfl, rfl, by decide +kernel, rfl, by decide +kernel, by decide +kernel⟩
theorem F_eaten (Z : Tx P w K mg base) {N : Nm} (hN : N.Ok) : Fn P w K mg base (GC K) "eaten" 64 [] (spF (fun t : T => [gD N, toD t]) (fun t => t.ok ∧ t.dp ≤ 58 ∧ t.eats N) fun t => optD (eatT N t)) := by
  refine fn_p0 Z (k := 63) 34 rfl rfl rfl rfl sc_eaten (by decide) (fun _ _ _ _ _ _ us hl => match us, hl with | [_, _], _ => rfl) (fun _ => rfl) (fun f cdv A outer s H E hr => by
    have sc := sc_eaten
    exact (dss_cons (ds_asg (de_call (F_open_up Z) (hr.mono (by omega)) (da_cons (de_var 1) da_nil)) (dg_tup rfl (dgs_cons (i := 2) sc.nd (dgs_cons (i := 3) sc.nd dgs_nil)))) (dss_cons (ds_if (dt_cmp op_ne d2_neS (de_ix ix_seq d2_ix (de_var 2) de_int) de_str (nomark _)) (dss_one (ds_ret de_non)) dss_nil) (dss_cons (ds_set (i := 4) sc.nd (de_call (F_row Z) (hr.mono (by omega)) (da_cons (de_var 0) (da_cons (de_ix ix_seq d2_ix (de_var 2) de_int) (da_cons de_str da_nil))))) (dss_cons (ds_if (DW.dt (dw_or (dt_cmp op_isN d2_isN (de_var 4) de_non (nomark _)) (dw_or1 (dt_cmp op_ne d2_neS (de_callB call_len dc_len rfl Z.f_len rfl (da_cons (de_var 3) da_nil)) (de_bin op_add d2_addI (de_bin op_add d2_addI (de_callB call_len dc_len rfl Z.f_len rfl (da_cons (de_ix ix_seq d2_ix (de_var 4) de_int) da_nil)) (de_callB call_len dc_len rfl Z.f_len rfl (da_cons (de_ix ix_seq d2_ix (de_var 4) de_int) da_nil))) de_int) (nomark _))))) (dss_one (ds_ret de_non)) dss_nil) (dss_cons (ds_asg (de_call (F_open_up Z) (hr.mono (by omega)) (da_cons (de_ix ix_seq d2_ix (de_var 3) de_neg) da_nil)) (dg_tup rfl (dgs_cons (i := 5) sc.nd (dgs_cons (i := 6) sc.nd dgs_nil)))) (dss_cons (ds_set (i := 7) sc.nd (de_callB call_len dc_len rfl Z.f_len rfl (da_cons (de_ix ix_seq d2_ix (de_var 4) de_int) da_nil))) (dss_cons (ds_if (DW.dt (dw_or (dt_cmp op_ne d2_neS (de_ix ix_seq d2_ix (de_var 5) de_int) de_str (nomark _)) (dw_or (dt_cmp op_ne d2_neS (de_ix ix_seq d2_ix (de_var 5) de_int) (de_ix ix_seq d2_ix (de_var 2) de_int) (nomark _)) (dw_or1 (dt_cmp op_ge d2_ge (de_ix ix_seq d2_ix (de_var 5) de_int) (de_callB call_len dc_len rfl Z.f_len rfl (da_cons (de_ix ix_seq d2_ix (de_var 4) de_int) da_nil)) (nomark _)))))) (dss_one (ds_ret de_non)) dss_nil) (dss_cons (ds_if (dt_cmp op_ne d2_neS (de_callB call_len dc_len rfl Z.f_len rfl (da_cons (de_var 6) da_nil)) (de_bin op_add d2_addI (de_var 7) (de_callB call_len dc_len rfl Z.f_len rfl (da_cons (de_ix ix_seq d2_ix (de_ix ix_seq d2_ix (de_var 4) de_int) (de_ix ix_seq d2_ix (de_var 5) de_int)) da_nil))) (nomark _)) (dss_one (ds_ret de_non)) dss_nil) (dss_cons (ds_set (i := 8) sc.nd (de_slice (de_var 6) (do_some (de_var 7)) do_none)) (dss_cons (ds_set (i := 9) sc.nd (de_call (F_apply_to Z) (hr.mono (by omega)) (da_cons (de_ix ix_seq d2_ix (de_var 3) (de_bin op_add d2_addI (de_bin op_add d2_addI (de_var 7) de_int) (de_ix ix_seq d2_ix (de_var 5) de_int))) (da_cons (de_var 8) da_nil)))) (dss_cons (ds_for (di_list (de_call (F_own_args Z) (hr.mono (by omega)) (da_cons (de_var 4) (da_cons (de_ix ix_seq d2_ix (de_var 5) de_int) da_nil)))) (dg_tup rfl (dgs_cons (i := 10) sc.nd (dgs_cons (i := 11) sc.nd dgs_nil))) (dss_cons (ds_set (i := 12) sc.nd (de_bin op_cat d2_catL (de_slice (de_var 3) do_none (do_some (de_var 7))) (de_slice (de_var 8) do_none (do_some (de_var 10))))) (dss_one (ds_set (i := 9) sc.nd (de_tup (da_cons de_str (da_cons (de_var 9) (da_cons (de_call (F_eaten_own Z) (hr.mono (by omega)) (da_cons (de_call (F_apply_to Z) (hr.mono (by omega)) (da_cons (de_var 2) (da_cons (de_slice (de_var 3) do_none (do_some de_neg)) da_nil))) (da_cons (de_var 12) (da_cons (de_ix ix_seq d2_ix (de_var 8) (de_var 10)) (da_cons (de_var 11) da_nil))))) da_nil)))))))) (dss_one (ds_ret (de_var 9))))))))))))))) ?hg
  rintro t π ⟨h1, h2, h3⟩
  obtain ⟨d1, d2, d3⟩ := t.open_dp
  obtain ⟨o1, o2⟩ := T.open_ok h1
  obtain ⟨e1, e2⟩ := T.open_eats h3
  have h4 : t.dp ≤ 64 := by omega
  have nb : ¬ N.bit = N.num := fun z => by
    have nd := hN.nd
    simp [Nm.all] at nd
    exact nd.1.1 z.symm
  walk_at "kpe"
  refine x_f1 t rfl h4 ?_
  unfold eatT
  cases ho : t.open with
  | mk hd as =>
    rw [ho] at d1 d2 d3 o1 o2 e1 e2
    simp only at d1 d2 d3 o1 o2 e1 e2
    walk_at "kpe"
    cases hd with
    | var n =>
      walk_at "kpe"
      exact ⟨rfl, rfl⟩
    | bin b x y => cases b <;> (
      walk_at "kpe"
      exact ⟨rfl, rfl⟩)
    | tri b x y z => cases b <;> (
      walk_at "kpe"
      exact ⟨rfl, rfl⟩)
    | leaf l =>
      cases l with
      | kind n =>
        walk_at "kpe"
        exact ⟨rfl, rfl⟩
      | name n =>
        walk_at "kpe"
        exact ⟨rfl, rfl⟩
      | thing n =>
        walk_at "kpe"
        exact ⟨rfl, rfl⟩
      | maker n m =>
        walk_at "kpe"
        exact ⟨rfl, rfl⟩
      | eater s k =>
        simp only [T.eats] at e1
        rcases e1 with e1 | e1
        · subst e1
          have hr := row_num hN
          walk_at "kpe"
          refine x_f1 (N.all, wRows N, N.num, "thing", rowNum N.num) rfl hr ?_
          walk_at "kpe"
          have el : as.length ≤ 60 := by omega
          refine x_len rfl (by simp; omega) ?_
          walk_at "kpe"
          by_cases hl : as.length = 4
          · refine x_if_f (by simp [hl]) ?_
            match as, hl with
            | [sd, z, st, la], _ =>
            have ok1 := o2 sd (by simp)
            have ok2 := o2 z (by simp)
            have ok3 := o2 st (by simp)
            have ok4 := o2 la (by simp)
            have dl1 := d2 sd (by simp)
            have dl2 := d2 z (by simp)
            have dl3 := d2 st (by simp)
            have dl4 := d2 la (by simp)
            obtain ⟨lo1, lo2⟩ := T.open_ok ok4
            obtain ⟨ld1, ld2, ld3⟩ := la.open_dp
            walk_at "kpe"
            refine x_f1 la rfl (by omega) ?_
            cases hlo : la.open with
            | mk mk held =>
              rw [hlo] at lo1 lo2 ld1 ld2 ld3
              simp only at lo1 lo2 ld1 ld2 ld3
              have hd60 : held.length ≤ 60 := by omega
              cases mk with
              | var n =>
                walk_at "kpe"
                exact ⟨by simp [optD, hlo], rfl⟩
              | bin b x y => cases b <;> (
                walk_at "kpe"
                exact ⟨by simp [optD, hlo], rfl⟩)
              | tri b x y z => cases b <;> (
                walk_at "kpe"
                exact ⟨by simp [optD, hlo], rfl⟩)
              | leaf l =>
                cases l with
                | kind n =>
                  walk_at "kpe"
                  exact ⟨by simp [optD, hlo], rfl⟩
                | name n =>
                  walk_at "kpe"
                  exact ⟨by simp [optD, hlo], rfl⟩
                | thing n =>
                  walk_at "kpe"
                  exact ⟨by simp [optD, hlo], rfl⟩
                | eater n m =>
                  walk_at "kpe"
                  exact ⟨by simp [optD, hlo], rfl⟩
                | maker s k2 =>
                  simp only [T.ok, Lf.ok] at lo1
                  obtain ⟨os, ok0⟩ := lo1
                  by_cases hs : s = N.num
                  · subst hs
                    by_cases hk : 2 ≤ k2
                    · have hk0 : ¬ k2 = 0 := by omega
                      have hk1 : ¬ k2 = 1 := by omega
                      repeat (first | (apply_rules (transparency := .reducible) (exfalso := false) (symm := false) (maxDepth := 1000) only [x_seq, x_next, x_ert, x_enx, x_ret, x_drop, x_asg, x_one, x_par, x_ifS, x_for, x_fo0, x_fo1, x_own, x_setL, x_c, x_nil, x_cons, x_tup, x_lst, x_bin, x_tst, x_exb, x_exi, x_exs, x_exl, x_ext2, x_1l, x_1t, x_1i, x_2i, x_ex1, x_ex2, x_and, x_or, x_not, x_if, x_ifL, x_andV, x_orV, x_notV, x_isi2, x_call, x_nop, x_part, x_sl, x_ownF, x_ownL, x_asL, x_lc, x_seL, x_seT, x_enL, x_enT, x_rng1, x_rng2, x_pset, x_meth, x_gnd, x_I0, x_eqI, x_eqS, x_isN, x_inT, x_in2, x_in5, x_slT, x_slL, x_int, x_listT, x_listL, x_tuple, x_max, x_min, x_rep0, x_rep2]) | refine x_many rfl ?_ | refine x_manyL rfl ?_ | refine x_var rfl ?_ | refine x_few (Nat.le_of_ble_eq_true rfl) ?_ | refine x_ixT rfl ?_ | refine x_ixL rfl ?_ | refine x_ixD rfl rfl ?_ | refine x_slD rfl ?_ | refine x_len rfl (Nat.le_of_ble_eq_true rfl) ?_ | refine x_lenO rfl (Nat.le_of_ble_eq_true rfl) ?_ | refine x_pix rfl rfl ?_ | refine x_catL (Nat.le_of_ble_eq_true rfl) ?_ | refine x_catT (Nat.le_of_ble_eq_true rfl) ?_ | refine x_catS (Nat.le_of_ble_eq_true rfl) ?_ | refine x_app rfl (Nat.lt_of_lt_of_le (Nat.lt_succ_self _) (Nat.le_of_ble_eq_true rfl)) ?_ | refine x_ext rfl ?_ | (refine x_isi ?_ ?_; focus (first | rfl | (simp; done))) | (refine x_if_t ?_ ?_; focus (first | rfl | (simp [hk]; done))) | (refine x_if_f ?_ ?_; focus (first | rfl | (simp [hk]; done))))
                      refine ⟨?_, rfl⟩
                      rcases held with _ | ⟨n, _ | ⟨n2, r⟩⟩ <;> simp [optD, hlo, hk0, hk1, nb]
                    · have hk' : k2 < 2 := by omega
                      have h01 : k2 = 0 ∨ k2 = 1 := by omega
                      rcases h01 with h01 | h01 <;> subst h01
                      · walk_at "kpe"
                        refine x_len rfl (by simp; omega) ?_
                        walk_at "kpe"
                        by_cases hh : held.length = 0
                        · refine x_if_f (by simp [hh]) ?_
                          match held, hh with
                          | [], _ =>
                          walk_at "kpe"
                          refine x_f1 (z, []) rfl trivial ?_
                          walk_at "kpe"
                          refine x_f1 (N.num, rowNum N.num, 0, .lst []) rfl ⟨os, Or.inl ⟨rfl, Or.inl ⟨rfl, rfl⟩⟩⟩ ?_
                          walk_at "kpe"
                          exact ⟨by simp [optD, hlo, nb, applyT], rfl⟩
                        · refine x_if_t (by simp; first | omega | (intro z; simp [z] at hh)) ?_
                          walk_at "kpe"
                          refine ⟨?_, rfl⟩
                          rcases held with _ | ⟨n, _ | ⟨n2, r⟩⟩ <;> simp at hh <;> simp [optD, hlo, nb]
                      · walk_at "kpe"
                        refine x_len rfl (by simp; omega) ?_
                        walk_at "kpe"
                        by_cases hh : held.length = 1
                        · refine x_if_f (by simp [hh]) ?_
                          match held, hh with
                          | [n], _ =>
                          have okn := lo2 n (by simp)
                          have dn := ld2 n (by simp)
                          walk_at "kpe"
                          refine x_f1 (st, [n]) rfl trivial ?_
                          walk_at "kpe"
                          refine x_f1 (N.num, rowNum N.num, 1, .lst [.tup [.int 0, .lst []]]) rfl ⟨os, Or.inl ⟨rfl, Or.inr ⟨rfl, rfl⟩⟩⟩ ?_
                          walk_at "kpe"
                          refine x_f1 (T.leaf (.eater N.num k), [sd, z, st]) rfl trivial ?_
                          walk_at "kpe"
                          have dk : (T.leaf (Lf.eater N.num k)).dp = 1 := rfl
                          refine x_f1 (tAp (tAp (tAp (.leaf (.eater N.num k)) sd) z) st, _, n) rfl ⟨⟨⟨⟨⟨o1, ok1⟩, ok2⟩, ok3⟩, by simp only [T.dp]; omega⟩, okn, by simp only; omega⟩ ?_
                          walk_at "kpe"
                          exact ⟨by simp [optD, hlo, nb, applyT], rfl⟩
                        · refine x_if_t (by simp; first | omega | (intro z; simp [z] at hh)) ?_
                          walk_at "kpe"
                          refine ⟨?_, rfl⟩
                          rcases held with _ | ⟨n, _ | ⟨n2, r⟩⟩ <;> simp at hh <;> simp [optD, hlo, nb]
                  · repeat (first | (apply_rules (transparency := .reducible) (exfalso := false) (symm := false) (maxDepth := 1000) only [x_seq, x_next, x_ert, x_enx, x_ret, x_drop, x_asg, x_one, x_par, x_ifS, x_for, x_fo0, x_fo1, x_own, x_setL, x_c, x_nil, x_cons, x_tup, x_lst, x_bin, x_tst, x_exb, x_exi, x_exs, x_exl, x_ext2, x_1l, x_1t, x_1i, x_2i, x_ex1, x_ex2, x_and, x_or, x_not, x_if, x_ifL, x_andV, x_orV, x_notV, x_isi2, x_call, x_nop, x_part, x_sl, x_ownF, x_ownL, x_asL, x_lc, x_seL, x_seT, x_enL, x_enT, x_rng1, x_rng2, x_pset, x_meth, x_gnd, x_I0, x_eqI, x_eqS, x_isN, x_inT, x_in2, x_in5, x_slT, x_slL, x_int, x_listT, x_listL, x_tuple, x_max, x_min, x_rep0, x_rep2]) | refine x_many rfl ?_ | refine x_manyL rfl ?_ | refine x_var rfl ?_ | refine x_few (Nat.le_of_ble_eq_true rfl) ?_ | refine x_ixT rfl ?_ | refine x_ixL rfl ?_ | refine x_ixD rfl rfl ?_ | refine x_slD rfl ?_ | refine x_len rfl (Nat.le_of_ble_eq_true rfl) ?_ | refine x_lenO rfl (Nat.le_of_ble_eq_true rfl) ?_ | refine x_pix rfl rfl ?_ | refine x_catL (Nat.le_of_ble_eq_true rfl) ?_ | refine x_catT (Nat.le_of_ble_eq_true rfl) ?_ | refine x_catS (Nat.le_of_ble_eq_true rfl) ?_ | refine x_app rfl (Nat.lt_of_lt_of_le (Nat.lt_succ_self _) (Nat.le_of_ble_eq_true rfl)) ?_ | refine x_ext rfl ?_ | (refine x_isi ?_ ?_; focus (first | rfl | (simp; done))) | (refine x_if_t ?_ ?_; focus (first | rfl | (simp [hs]; done))) | (refine x_if_f ?_ ?_; focus (first | rfl | (simp [hs]; done))))
                    exact ⟨by simp [optD, hlo, hs], rfl⟩
          · refine x_if_t (by simp; omega) ?_
            walk_at "kpe"
            refine ⟨?_, rfl⟩
            rcases as with _ | ⟨a1, _ | ⟨a2, _ | ⟨a3, _ | ⟨a4, _ | ⟨a5, r⟩⟩⟩⟩⟩ <;> simp at hl <;> simp [optD]
        · subst e1
          have hr := row_bit hN
          walk_at "kpe"
          refine x_f1 (N.all, wRows N, N.bit, "thing", rowBit N.bit) rfl hr ?_
          walk_at "kpe"
          have el : as.length ≤ 60 := by omega
          refine x_len rfl (by simp; omega) ?_
          walk_at "kpe"
          by_cases hl : as.length = 4
          · refine x_if_f (by simp [hl]) ?_
            match as, hl with
            | [sd, z, st, la], _ =>
            have ok1 := o2 sd (by simp)
            have ok2 := o2 z (by simp)
            have ok3 := o2 st (by simp)
            have ok4 := o2 la (by simp)
            have dl1 := d2 sd (by simp)
            have dl2 := d2 z (by simp)
            have dl3 := d2 st (by simp)
            have dl4 := d2 la (by simp)
            obtain ⟨lo1, lo2⟩ := T.open_ok ok4
            obtain ⟨ld1, ld2, ld3⟩ := la.open_dp
            walk_at "kpe"
            refine x_f1 la rfl (by omega) ?_
            cases hlo : la.open with
            | mk mk held =>
              rw [hlo] at lo1 lo2 ld1 ld2 ld3
              simp only at lo1 lo2 ld1 ld2 ld3
              have hd60 : held.length ≤ 60 := by omega
              cases mk with
              | var n =>
                walk_at "kpe"
                exact ⟨by simp [optD, hlo], rfl⟩
              | bin b x y => cases b <;> (
                walk_at "kpe"
                exact ⟨by simp [optD, hlo], rfl⟩)
              | tri b x y z => cases b <;> (
                walk_at "kpe"
                exact ⟨by simp [optD, hlo], rfl⟩)
              | leaf l =>
                cases l with
                | kind n =>
                  walk_at "kpe"
                  exact ⟨by simp [optD, hlo], rfl⟩
                | name n =>
                  walk_at "kpe"
                  exact ⟨by simp [optD, hlo], rfl⟩
                | thing n =>
                  walk_at "kpe"
                  exact ⟨by simp [optD, hlo], rfl⟩
                | eater n m =>
                  walk_at "kpe"
                  exact ⟨by simp [optD, hlo], rfl⟩
                | maker s k2 =>
                  simp only [T.ok, Lf.ok] at lo1
                  obtain ⟨os, ok0⟩ := lo1
                  by_cases hs : s = N.bit
                  · subst hs
                    by_cases hk : 2 ≤ k2
                    · have hk0 : ¬ k2 = 0 := by omega
                      have hk1 : ¬ k2 = 1 := by omega
                      repeat (first | (apply_rules (transparency := .reducible) (exfalso := false) (symm := false) (maxDepth := 1000) only [x_seq, x_next, x_ert, x_enx, x_ret, x_drop, x_asg, x_one, x_par, x_ifS, x_for, x_fo0, x_fo1, x_own, x_setL, x_c, x_nil, x_cons, x_tup, x_lst, x_bin, x_tst, x_exb, x_exi, x_exs, x_exl, x_ext2, x_1l, x_1t, x_1i, x_2i, x_ex1, x_ex2, x_and, x_or, x_not, x_if, x_ifL, x_andV, x_orV, x_notV, x_isi2, x_call, x_nop, x_part, x_sl, x_ownF, x_ownL, x_asL, x_lc, x_seL, x_seT, x_enL, x_enT, x_rng1, x_rng2, x_pset, x_meth, x_gnd, x_I0, x_eqI, x_eqS, x_isN, x_inT, x_in2, x_in5, x_slT, x_slL, x_int, x_listT, x_listL, x_tuple, x_max, x_min, x_rep0, x_rep2]) | refine x_many rfl ?_ | refine x_manyL rfl ?_ | refine x_var rfl ?_ | refine x_few (Nat.le_of_ble_eq_true rfl) ?_ | refine x_ixT rfl ?_ | refine x_ixL rfl ?_ | refine x_ixD rfl rfl ?_ | refine x_slD rfl ?_ | refine x_len rfl (Nat.le_of_ble_eq_true rfl) ?_ | refine x_lenO rfl (Nat.le_of_ble_eq_true rfl) ?_ | refine x_pix rfl rfl ?_ | refine x_catL (Nat.le_of_ble_eq_true rfl) ?_ | refine x_catT (Nat.le_of_ble_eq_true rfl) ?_ | refine x_catS (Nat.le_of_ble_eq_true rfl) ?_ | refine x_app rfl (Nat.lt_of_lt_of_le (Nat.lt_succ_self _) (Nat.le_of_ble_eq_true rfl)) ?_ | refine x_ext rfl ?_ | (refine x_isi ?_ ?_; focus (first | rfl | (simp; done))) | (refine x_if_t ?_ ?_; focus (first | rfl | (simp [hk]; done))) | (refine x_if_f ?_ ?_; focus (first | rfl | (simp [hk]; done))))
                      refine ⟨?_, rfl⟩
                      rcases held with _ | ⟨n, _ | ⟨n2, r⟩⟩ <;> simp [optD, hlo, hk0, hk1, nb]
                    · have hk' : k2 < 2 := by omega
                      have h01 : k2 = 0 ∨ k2 = 1 := by omega
                      rcases h01 with h01 | h01 <;> subst h01
                      · walk_at "kpe"
                        refine x_len rfl (by simp; omega) ?_
                        walk_at "kpe"
                        by_cases hh : held.length = 0
                        · refine x_if_f (by simp [hh]) ?_
                          match held, hh with
                          | [], _ =>
                          walk_at "kpe"
                          refine x_f1 (z, []) rfl trivial ?_
                          walk_at "kpe"
                          refine x_f1 (N.bit, rowBit N.bit, 0, .lst []) rfl ⟨os, Or.inr ⟨rfl, Or.inl rfl, rfl⟩⟩ ?_
                          walk_at "kpe"
                          exact ⟨by simp [optD, hlo, nb, applyT], rfl⟩
                        · refine x_if_t (by simp; first | omega | (intro z; simp [z] at hh)) ?_
                          walk_at "kpe"
                          refine ⟨?_, rfl⟩
                          rcases held with _ | ⟨n, _ | ⟨n2, r⟩⟩ <;> simp at hh <;> simp [optD, hlo, nb]
                      · walk_at "kpe"
                        refine x_len rfl (by simp; omega) ?_
                        walk_at "kpe"
                        by_cases hh : held.length = 0
                        · refine x_if_f (by simp [hh]) ?_
                          match held, hh with
                          | [], _ =>
                          walk_at "kpe"
                          refine x_f1 (st, []) rfl trivial ?_
                          walk_at "kpe"
                          refine x_f1 (N.bit, rowBit N.bit, 1, .lst []) rfl ⟨os, Or.inr ⟨rfl, Or.inr rfl, rfl⟩⟩ ?_
                          walk_at "kpe"
                          exact ⟨by simp [optD, hlo, nb, applyT], rfl⟩
                        · refine x_if_t (by simp; first | omega | (intro z; simp [z] at hh)) ?_
                          walk_at "kpe"
                          refine ⟨?_, rfl⟩
                          rcases held with _ | ⟨n, _ | ⟨n2, r⟩⟩ <;> simp at hh <;> simp [optD, hlo, nb]
                  · repeat (first | (apply_rules (transparency := .reducible) (exfalso := false) (symm := false) (maxDepth := 1000) only [x_seq, x_next, x_ert, x_enx, x_ret, x_drop, x_asg, x_one, x_par, x_ifS, x_for, x_fo0, x_fo1, x_own, x_setL, x_c, x_nil, x_cons, x_tup, x_lst, x_bin, x_tst, x_exb, x_exi, x_exs, x_exl, x_ext2, x_1l, x_1t, x_1i, x_2i, x_ex1, x_ex2, x_and, x_or, x_not, x_if, x_ifL, x_andV, x_orV, x_notV, x_isi2, x_call, x_nop, x_part, x_sl, x_ownF, x_ownL, x_asL, x_lc, x_seL, x_seT, x_enL, x_enT, x_rng1, x_rng2, x_pset, x_meth, x_gnd, x_I0, x_eqI, x_eqS, x_isN, x_inT, x_in2, x_in5, x_slT, x_slL, x_int, x_listT, x_listL, x_tuple, x_max, x_min, x_rep0, x_rep2]) | refine x_many rfl ?_ | refine x_manyL rfl ?_ | refine x_var rfl ?_ | refine x_few (Nat.le_of_ble_eq_true rfl) ?_ | refine x_ixT rfl ?_ | refine x_ixL rfl ?_ | refine x_ixD rfl rfl ?_ | refine x_slD rfl ?_ | refine x_len rfl (Nat.le_of_ble_eq_true rfl) ?_ | refine x_lenO rfl (Nat.le_of_ble_eq_true rfl) ?_ | refine x_pix rfl rfl ?_ | refine x_catL (Nat.le_of_ble_eq_true rfl) ?_ | refine x_catT (Nat.le_of_ble_eq_true rfl) ?_ | refine x_catS (Nat.le_of_ble_eq_true rfl) ?_ | refine x_app rfl (Nat.lt_of_lt_of_le (Nat.lt_succ_self _) (Nat.le_of_ble_eq_true rfl)) ?_ | refine x_ext rfl ?_ | (refine x_isi ?_ ?_; focus (first | rfl | (simp; done))) | (refine x_if_t ?_ ?_; focus (first | rfl | (simp [hs]; done))) | (refine x_if_f ?_ ?_; focus (first | rfl | (simp [hs]; done))))
                    exact ⟨by simp [optD, hlo, hs], rfl⟩
          · refine x_if_t (by simp; omega) ?_
            walk_at "kpe"
            refine ⟨?_, rfl⟩
            rcases as with _ | ⟨a1, _ | ⟨a2, _ | ⟨a3, _ | ⟨a4, _ | ⟨a5, r⟩⟩⟩⟩⟩ <;> simp at hl <;> simp [optD]
end
end Kp
set_option maxRecDepth 100000
set_option maxHeartbeats 4000000
/-! A10: gone, next_of -/
namespace Kp
open PySem PySem.Spec L2
def ruleD (o : Option (Str × T)) : D := match o with
  | none => .non
  | some p => .tup [.str p.1, toD p.2]
section
variable {P : Program} {w : World} {K : PySem.W.Frag} {mg : Str → Option Value} {base : Heap}
theorem sc_gone : FnScope ["ground", "term", "row", "found"] ["ground", "term"] d_gone.scope := ⟨rfl, rfl, rfl, by decide +kernel, rfl, by decide +kernel, by decide +kernel⟩
theorem F_gone (Z : Tx P w K mg base) {N : Nm} (hN : N.Ok) : Fn P w K mg base (GC K) "gone" 122 [] (spF (fun t : T => [gD N, toD t]) (fun t => t.ok ∧ t.dp ≤ 58 ∧ t.eats N) fun t => ruleD (goneT N t)) := by
  refine fn_p0 Z (k := 121) 35 rfl rfl rfl rfl sc_gone (by decide) (fun _ _ _ _ _ _ us hl => match us, hl with | [_, _], _ => rfl) (fun _ => rfl) (fun f cdv A outer s H E hr => by
    have sc := sc_gone
    exact (dss_cons (ds_if (DW.dt (dw_and (dt_cmp op_eq d2_eqS (de_ix ix_seq d2_ix (de_var 1) de_int) de_str (nomark _)) (dw_and1 (dt_cmp op_eq d2_eqS (de_ix ix_seq d2_ix (de_ix ix_seq d2_ix (de_var 1) de_int) de_int) de_str (nomark _))))) (dss_one (ds_ret (de_tup (da_cons de_str (da_cons (de_call (F_give0 Z (d := 57) (by omega)) (hr.mono (by omega)) (da_cons (de_ix ix_seq d2_ix (de_ix ix_seq d2_ix (de_var 1) de_int) de_int) (da_cons (de_ix ix_seq d2_ix (de_var 1) de_int) (da_cons de_int da_nil)))) da_nil))))) dss_nil) (dss_cons (ds_if (dt_cmp op_eq d2_eqS (de_ix ix_seq d2_ix (de_var 1) de_int) de_str (nomark _)) (dss_cons (ds_set (i := 2) sc.nd (de_call (F_row Z) (hr.mono (by omega)) (da_cons (de_var 0) (da_cons (de_ix ix_seq d2_ix (de_var 1) de_int) (da_cons de_str da_nil))))) (dss_one (ds_ret (de_if (dt_cmp op_isN d2_isN (de_var 2) de_non (nomark _)) de_non (de_tup (da_cons de_str (da_cons (de_ix ix_seq d2_ix (de_var 2) de_int) da_nil))))))) dss_nil) (dss_cons (ds_if (dt_cmp op_eq d2_eqS (de_ix ix_seq d2_ix (de_var 1) de_int) de_str (nomark _)) (dss_one (ds_ret (de_if (dt_cmp op_eq d2_eqS (de_ix ix_seq d2_ix (de_ix ix_seq d2_ix (de_var 1) de_int) de_int) de_str (nomark _)) (de_tup (da_cons de_str (da_cons (de_ix ix_seq d2_ix (de_var 1) de_int) da_nil))) de_non))) dss_nil) (dss_cons (ds_set (i := 3) sc.nd (de_if (dt_cmp op_eq d2_eqS (de_ix ix_seq d2_ix (de_var 1) de_int) de_str (nomark _)) (de_call (F_eaten Z hN) (hr.mono (by omega)) (da_cons (de_var 0) (da_cons (de_var 1) da_nil))) de_non)) (dss_one (ds_ret (de_if (dt_cmp op_isN d2_isN (de_var 3) de_non (nomark _)) de_non (de_tup (da_cons de_str (da_cons (de_var 3) da_nil))))))))))) ?hg
  rintro t π ⟨h1, h2, h3⟩
  cases t with
  | var n =>
    walk_at "kpe"
    exact ⟨rfl, rfl⟩
  | leaf l =>
    cases l with
    | kind n =>
      walk_at "kpe"
      exact ⟨rfl, rfl⟩
    | thing n =>
      walk_at "kpe"
      exact ⟨rfl, rfl⟩
    | maker n m =>
      walk_at "kpe"
      exact ⟨rfl, rfl⟩
    | eater n m =>
      walk_at "kpe"
      exact ⟨rfl, rfl⟩
    | name s =>
      walk_at "kpe"
      refine x_f1 (N.all, wRows N, s, "mean", meanRow N s) rfl (row_mean hN s) ?_
      by_cases k1 : s = N.two
      · have e : meanRow N s = meD N.two (tTh N.num) (numT N 2) := by simp [meanRow, k1]
        simp only [e]
        walk_at "kpe"
        exact ⟨by simp [ruleD, goneT, k1], rfl⟩
      · by_cases k2 : s = N.flip
        · have k3 : ¬ N.flip = N.two := k2 ▸ k1
          have e : meanRow N s = meD N.flip (tAl (tTh N.bit) (tTh N.bit)) (flipT N) := by simp [meanRow, k2, k3]
          simp only [e]
          walk_at "kpe"
          exact ⟨by simp [ruleD, goneT, k2, k3], rfl⟩
        · have e : meanRow N s = .non := by simp [meanRow, k1, k2]
          simp only [e]
          walk_at "kpe"
          exact ⟨by simp [ruleD, goneT, k1, k2], rfl⟩
  | tri b x y z =>
    cases b with
    | sm =>
      walk_at "kpe"
      exact ⟨rfl, rfl⟩
    | pt =>
      cases y with
      | var n =>
        walk_at "kpe"
        exact ⟨rfl, rfl⟩
      | leaf l => cases l <;> (
        walk_at "kpe"
        exact ⟨rfl, rfl⟩)
      | bin b u v => cases b <;> (
        walk_at "kpe"
        exact ⟨rfl, rfl⟩)
      | tri b u v z => cases b <;> (
        walk_at "kpe"
        exact ⟨rfl, rfl⟩)
  | bin b x y =>
    simp only [T.dp] at h2
    have m1 := Nat.le_max_left x.dp y.dp
    have m2 := Nat.le_max_right x.dp y.dp
    cases b with
    | al =>
      walk_at "kpe"
      exact ⟨rfl, rfl⟩
    | fn =>
      walk_at "kpe"
      exact ⟨rfl, rfl⟩
    | sf =>
      walk_at "kpe"
      exact ⟨rfl, rfl⟩
    | ap =>
      have fin : ∀ e : Option T, (∀ u : T × T, x ≠ .bin .fn u.1 u.2) → ruleD (goneT N (tAp x y)) = match eatT N (tAp x y) with
          | none => .non
          | some u => .tup [.str "eat", toD u] := by
        intro e hx
        cases x with
        | var n => simp [goneT]; cases eatT N (tAp (.var n) y) <;> rfl
        | leaf l => simp [goneT]; cases eatT N (tAp (.leaf l) y) <;> rfl
        | tri b u v z => simp [goneT]; cases eatT N (tAp (.tri b u v z) y) <;> rfl
        | bin b u v =>
          cases b with
          | fn => exact absurd rfl (hx (u, v))
          | al => simp [goneT]; cases eatT N (tAp (.bin .al u v) y) <;> rfl
          | ap => simp [goneT]; cases eatT N (tAp (.bin .ap u v) y) <;> rfl
          | sf => simp [goneT]; cases eatT N (tAp (.bin .sf u v) y) <;> rfl
      by_cases hf : ∃ u v, x = .bin .fn u v
      · obtain ⟨u, v, rfl⟩ := hf
        have m4 : (T.bin .fn u v).dp = max u.dp v.dp + 1 := rfl
        have m3 := Nat.le_max_right u.dp v.dp
        walk_at "kpe"
        refine x_f1 (v, y, 0) rfl ⟨⟨h1.1.2, by simp only; omega⟩, h1.2, by simp only; omega⟩ ?_
        walk_at "kpe"
        exact ⟨rfl, rfl⟩
      · have hx : ∀ u : T × T, x ≠ .bin .fn u.1 u.2 := fun u e => hf ⟨u.1, u.2, e⟩
        rw [fin none hx]
        cases x with
        | var n =>
          walk_at "kpe"
          refine x_f1 (tAp (.var n) y) rfl ⟨h1, by simp only [T.dp]; omega, h3⟩ ?_
          cases eatT N (tAp (.var n) y) <;> (
          repeat (first | (apply_rules (transparency := .reducible) (exfalso := false) (symm := false) (maxDepth := 1000) only [x_seq, x_next, x_ert, x_enx, x_ret, x_drop, x_asg, x_one, x_par, x_ifS, x_for, x_fo0, x_fo1, x_own, x_setL, x_c, x_nil, x_cons, x_tup, x_lst, x_bin, x_tst, x_exb, x_exi, x_exs, x_exl, x_ext2, x_1l, x_1t, x_1i, x_2i, x_ex1, x_ex2, x_and, x_or, x_not, x_if, x_ifL, x_andV, x_orV, x_notV, x_isi2, x_call, x_nop, x_part, x_sl, x_ownF, x_ownL, x_asL, x_lc, x_seL, x_seT, x_enL, x_enT, x_rng1, x_rng2, x_pset, x_meth, x_gnd, x_I0, x_eqI, x_eqS, x_isN, x_inT, x_in2, x_in5, x_slT, x_slL, x_int, x_listT, x_listL, x_tuple, x_max, x_min, x_rep0, x_rep2]) | refine x_many rfl ?_ | refine x_manyL rfl ?_ | refine x_var rfl ?_ | refine x_few (Nat.le_of_ble_eq_true rfl) ?_ | refine x_ixT rfl ?_ | refine x_ixL rfl ?_ | refine x_ixD rfl rfl ?_ | refine x_slD rfl ?_ | refine x_len rfl (Nat.le_of_ble_eq_true rfl) ?_ | refine x_lenO rfl (Nat.le_of_ble_eq_true rfl) ?_ | refine x_pix rfl rfl ?_ | refine x_catL (Nat.le_of_ble_eq_true rfl) ?_ | refine x_catT (Nat.le_of_ble_eq_true rfl) ?_ | refine x_catS (Nat.le_of_ble_eq_true rfl) ?_ | refine x_app rfl (Nat.lt_of_lt_of_le (Nat.lt_succ_self _) (Nat.le_of_ble_eq_true rfl)) ?_ | refine x_ext rfl ?_ | (refine x_isi ?_ ?_; focus (first | rfl | (simp; done))) | (refine x_if_t ?_ ?_; focus (first | rfl | (simp [optD]; done))) | (refine x_if_f ?_ ?_; focus (first | rfl | (simp [optD]; done))))
          exact ⟨rfl, rfl⟩)
        | leaf l => cases l <;> (
          walk_at "kpe"
          refine x_f1 (tAp (.leaf _) y) rfl ⟨h1, by simp only [T.dp]; omega, h3⟩ ?_
          generalize eatT N _ = q
          cases q <;> (
          repeat (first | (apply_rules (transparency := .reducible) (exfalso := false) (symm := false) (maxDepth := 1000) only [x_seq, x_next, x_ert, x_enx, x_ret, x_drop, x_asg, x_one, x_par, x_ifS, x_for, x_fo0, x_fo1, x_own, x_setL, x_c, x_nil, x_cons, x_tup, x_lst, x_bin, x_tst, x_exb, x_exi, x_exs, x_exl, x_ext2, x_1l, x_1t, x_1i, x_2i, x_ex1, x_ex2, x_and, x_or, x_not, x_if, x_ifL, x_andV, x_orV, x_notV, x_isi2, x_call, x_nop, x_part, x_sl, x_ownF, x_ownL, x_asL, x_lc, x_seL, x_seT, x_enL, x_enT, x_rng1, x_rng2, x_pset, x_meth, x_gnd, x_I0, x_eqI, x_eqS, x_isN, x_inT, x_in2, x_in5, x_slT, x_slL, x_int, x_listT, x_listL, x_tuple, x_max, x_min, x_rep0, x_rep2]) | refine x_many rfl ?_ | refine x_manyL rfl ?_ | refine x_var rfl ?_ | refine x_few (Nat.le_of_ble_eq_true rfl) ?_ | refine x_ixT rfl ?_ | refine x_ixL rfl ?_ | refine x_ixD rfl rfl ?_ | refine x_slD rfl ?_ | refine x_len rfl (Nat.le_of_ble_eq_true rfl) ?_ | refine x_lenO rfl (Nat.le_of_ble_eq_true rfl) ?_ | refine x_pix rfl rfl ?_ | refine x_catL (Nat.le_of_ble_eq_true rfl) ?_ | refine x_catT (Nat.le_of_ble_eq_true rfl) ?_ | refine x_catS (Nat.le_of_ble_eq_true rfl) ?_ | refine x_app rfl (Nat.lt_of_lt_of_le (Nat.lt_succ_self _) (Nat.le_of_ble_eq_true rfl)) ?_ | refine x_ext rfl ?_ | (refine x_isi ?_ ?_; focus (first | rfl | (simp; done))) | (refine x_if_t ?_ ?_; focus (first | rfl | (simp [optD]; done))) | (refine x_if_f ?_ ?_; focus (first | rfl | (simp [optD]; done))))
          exact ⟨rfl, rfl⟩))
        | tri b u v z => cases b <;> (
          walk_at "kpe"
          refine x_f1 (tAp (.tri _ u v z) y) rfl ⟨h1, by simp only [T.dp]; simp only [T.dp] at m1 m2 h2; omega, h3⟩ ?_
          generalize eatT N _ = q
          cases q <;> (
          repeat (first | (apply_rules (transparency := .reducible) (exfalso := false) (symm := false) (maxDepth := 1000) only [x_seq, x_next, x_ert, x_enx, x_ret, x_drop, x_asg, x_one, x_par, x_ifS, x_for, x_fo0, x_fo1, x_own, x_setL, x_c, x_nil, x_cons, x_tup, x_lst, x_bin, x_tst, x_exb, x_exi, x_exs, x_exl, x_ext2, x_1l, x_1t, x_1i, x_2i, x_ex1, x_ex2, x_and, x_or, x_not, x_if, x_ifL, x_andV, x_orV, x_notV, x_isi2, x_call, x_nop, x_part, x_sl, x_ownF, x_ownL, x_asL, x_lc, x_seL, x_seT, x_enL, x_enT, x_rng1, x_rng2, x_pset, x_meth, x_gnd, x_I0, x_eqI, x_eqS, x_isN, x_inT, x_in2, x_in5, x_slT, x_slL, x_int, x_listT, x_listL, x_tuple, x_max, x_min, x_rep0, x_rep2]) | refine x_many rfl ?_ | refine x_manyL rfl ?_ | refine x_var rfl ?_ | refine x_few (Nat.le_of_ble_eq_true rfl) ?_ | refine x_ixT rfl ?_ | refine x_ixL rfl ?_ | refine x_ixD rfl rfl ?_ | refine x_slD rfl ?_ | refine x_len rfl (Nat.le_of_ble_eq_true rfl) ?_ | refine x_lenO rfl (Nat.le_of_ble_eq_true rfl) ?_ | refine x_pix rfl rfl ?_ | refine x_catL (Nat.le_of_ble_eq_true rfl) ?_ | refine x_catT (Nat.le_of_ble_eq_true rfl) ?_ | refine x_catS (Nat.le_of_ble_eq_true rfl) ?_ | refine x_app rfl (Nat.lt_of_lt_of_le (Nat.lt_succ_self _) (Nat.le_of_ble_eq_true rfl)) ?_ | refine x_ext rfl ?_ | (refine x_isi ?_ ?_; focus (first | rfl | (simp; done))) | (refine x_if_t ?_ ?_; focus (first | rfl | (simp [optD]; done))) | (refine x_if_f ?_ ?_; focus (first | rfl | (simp [optD]; done))))
          exact ⟨rfl, rfl⟩))
        | bin b u v =>
          cases b with
          | fn => exact absurd rfl (hx (u, v))
          | al =>
            walk_at "kpe"
            refine x_f1 (tAp (.bin _ u v) y) rfl ⟨h1, by simp only [T.dp]; simp only [T.dp] at m1 m2 h2; omega, h3⟩ ?_
            generalize eatT N _ = q
            cases q <;> (
            repeat (first | (apply_rules (transparency := .reducible) (exfalso := false) (symm := false) (maxDepth := 1000) only [x_seq, x_next, x_ert, x_enx, x_ret, x_drop, x_asg, x_one, x_par, x_ifS, x_for, x_fo0, x_fo1, x_own, x_setL, x_c, x_nil, x_cons, x_tup, x_lst, x_bin, x_tst, x_exb, x_exi, x_exs, x_exl, x_ext2, x_1l, x_1t, x_1i, x_2i, x_ex1, x_ex2, x_and, x_or, x_not, x_if, x_ifL, x_andV, x_orV, x_notV, x_isi2, x_call, x_nop, x_part, x_sl, x_ownF, x_ownL, x_asL, x_lc, x_seL, x_seT, x_enL, x_enT, x_rng1, x_rng2, x_pset, x_meth, x_gnd, x_I0, x_eqI, x_eqS, x_isN, x_inT, x_in2, x_in5, x_slT, x_slL, x_int, x_listT, x_listL, x_tuple, x_max, x_min, x_rep0, x_rep2]) | refine x_many rfl ?_ | refine x_manyL rfl ?_ | refine x_var rfl ?_ | refine x_few (Nat.le_of_ble_eq_true rfl) ?_ | refine x_ixT rfl ?_ | refine x_ixL rfl ?_ | refine x_ixD rfl rfl ?_ | refine x_slD rfl ?_ | refine x_len rfl (Nat.le_of_ble_eq_true rfl) ?_ | refine x_lenO rfl (Nat.le_of_ble_eq_true rfl) ?_ | refine x_pix rfl rfl ?_ | refine x_catL (Nat.le_of_ble_eq_true rfl) ?_ | refine x_catT (Nat.le_of_ble_eq_true rfl) ?_ | refine x_catS (Nat.le_of_ble_eq_true rfl) ?_ | refine x_app rfl (Nat.lt_of_lt_of_le (Nat.lt_succ_self _) (Nat.le_of_ble_eq_true rfl)) ?_ | refine x_ext rfl ?_ | (refine x_isi ?_ ?_; focus (first | rfl | (simp; done))) | (refine x_if_t ?_ ?_; focus (first | rfl | (simp [optD]; done))) | (refine x_if_f ?_ ?_; focus (first | rfl | (simp [optD]; done))))
            exact ⟨rfl, rfl⟩)
          | ap =>
            walk_at "kpe"
            refine x_f1 (tAp (.bin _ u v) y) rfl ⟨h1, by simp only [T.dp]; simp only [T.dp] at m1 m2 h2; omega, h3⟩ ?_
            generalize eatT N _ = q
            cases q <;> (
            repeat (first | (apply_rules (transparency := .reducible) (exfalso := false) (symm := false) (maxDepth := 1000) only [x_seq, x_next, x_ert, x_enx, x_ret, x_drop, x_asg, x_one, x_par, x_ifS, x_for, x_fo0, x_fo1, x_own, x_setL, x_c, x_nil, x_cons, x_tup, x_lst, x_bin, x_tst, x_exb, x_exi, x_exs, x_exl, x_ext2, x_1l, x_1t, x_1i, x_2i, x_ex1, x_ex2, x_and, x_or, x_not, x_if, x_ifL, x_andV, x_orV, x_notV, x_isi2, x_call, x_nop, x_part, x_sl, x_ownF, x_ownL, x_asL, x_lc, x_seL, x_seT, x_enL, x_enT, x_rng1, x_rng2, x_pset, x_meth, x_gnd, x_I0, x_eqI, x_eqS, x_isN, x_inT, x_in2, x_in5, x_slT, x_slL, x_int, x_listT, x_listL, x_tuple, x_max, x_min, x_rep0, x_rep2]) | refine x_many rfl ?_ | refine x_manyL rfl ?_ | refine x_var rfl ?_ | refine x_few (Nat.le_of_ble_eq_true rfl) ?_ | refine x_ixT rfl ?_ | refine x_ixL rfl ?_ | refine x_ixD rfl rfl ?_ | refine x_slD rfl ?_ | refine x_len rfl (Nat.le_of_ble_eq_true rfl) ?_ | refine x_lenO rfl (Nat.le_of_ble_eq_true rfl) ?_ | refine x_pix rfl rfl ?_ | refine x_catL (Nat.le_of_ble_eq_true rfl) ?_ | refine x_catT (Nat.le_of_ble_eq_true rfl) ?_ | refine x_catS (Nat.le_of_ble_eq_true rfl) ?_ | refine x_app rfl (Nat.lt_of_lt_of_le (Nat.lt_succ_self _) (Nat.le_of_ble_eq_true rfl)) ?_ | refine x_ext rfl ?_ | (refine x_isi ?_ ?_; focus (first | rfl | (simp; done))) | (refine x_if_t ?_ ?_; focus (first | rfl | (simp [optD]; done))) | (refine x_if_f ?_ ?_; focus (first | rfl | (simp [optD]; done))))
            exact ⟨rfl, rfl⟩)
          | sf =>
            walk_at "kpe"
            refine x_f1 (tAp (.bin _ u v) y) rfl ⟨h1, by simp only [T.dp]; simp only [T.dp] at m1 m2 h2; omega, h3⟩ ?_
            generalize eatT N _ = q
            cases q <;> (
            repeat (first | (apply_rules (transparency := .reducible) (exfalso := false) (symm := false) (maxDepth := 1000) only [x_seq, x_next, x_ert, x_enx, x_ret, x_drop, x_asg, x_one, x_par, x_ifS, x_for, x_fo0, x_fo1, x_own, x_setL, x_c, x_nil, x_cons, x_tup, x_lst, x_bin, x_tst, x_exb, x_exi, x_exs, x_exl, x_ext2, x_1l, x_1t, x_1i, x_2i, x_ex1, x_ex2, x_and, x_or, x_not, x_if, x_ifL, x_andV, x_orV, x_notV, x_isi2, x_call, x_nop, x_part, x_sl, x_ownF, x_ownL, x_asL, x_lc, x_seL, x_seT, x_enL, x_enT, x_rng1, x_rng2, x_pset, x_meth, x_gnd, x_I0, x_eqI, x_eqS, x_isN, x_inT, x_in2, x_in5, x_slT, x_slL, x_int, x_listT, x_listL, x_tuple, x_max, x_min, x_rep0, x_rep2]) | refine x_many rfl ?_ | refine x_manyL rfl ?_ | refine x_var rfl ?_ | refine x_few (Nat.le_of_ble_eq_true rfl) ?_ | refine x_ixT rfl ?_ | refine x_ixL rfl ?_ | refine x_ixD rfl rfl ?_ | refine x_slD rfl ?_ | refine x_len rfl (Nat.le_of_ble_eq_true rfl) ?_ | refine x_lenO rfl (Nat.le_of_ble_eq_true rfl) ?_ | refine x_pix rfl rfl ?_ | refine x_catL (Nat.le_of_ble_eq_true rfl) ?_ | refine x_catT (Nat.le_of_ble_eq_true rfl) ?_ | refine x_catS (Nat.le_of_ble_eq_true rfl) ?_ | refine x_app rfl (Nat.lt_of_lt_of_le (Nat.lt_succ_self _) (Nat.le_of_ble_eq_true rfl)) ?_ | refine x_ext rfl ?_ | (refine x_isi ?_ ?_; focus (first | rfl | (simp; done))) | (refine x_if_t ?_ ?_; focus (first | rfl | (simp [optD]; done))) | (refine x_if_f ?_ ?_; focus (first | rfl | (simp [optD]; done))))
            exact ⟨rfl, rfl⟩)
end
end Kp
set_option maxRecDepth 100000
set_option maxHeartbeats 4000000
/-! A11: steps_in -/
namespace Kp
open PySem PySem.Spec L2
def stpD (p : List Int × Str × T) : D := .tup [spD p.1, .str p.2.1, toD p.2.2]
theorem own_len (N : Nm) (t : T) : (ownSteps N t).length ≤ 1 := by
  unfold ownSteps
  split <;> simp
theorem stepsT_len (N : Nm) : ∀ t : T, (stepsT N t).length ≤ t.sz
  | .var n => by simpa [stepsT, T.sz] using own_len N (.var n)
  | .leaf l => by simpa [stepsT, T.sz] using own_len N (.leaf l)
  | .bin b x y => by
    have h1 := stepsT_len N x
    have h2 := stepsT_len N y
    have h3 := own_len N (.bin b x y)
    simp only [stepsT, T.sz, List.length_append, List.length_map]; omega
  | .tri b x y z => by
    have h1 := stepsT_len N x
    have h2 := stepsT_len N y
    have h4 := stepsT_len N z
    have h3 := own_len N (.tri b x y z)
    simp only [stepsT, T.sz, List.length_append, List.length_map]; omega
theorem own_short {N : Nm} {t : T} {p : List Int × Str × T} (h : p ∈ ownSteps N t) : p.1 = [] := by
  unfold ownSteps at h
  split at h
  · cases h
  · simp only [List.mem_singleton] at h; rw [h]
theorem stepsT_short {N : Nm} : ∀ {t : T} {p : List Int × Str × T}, p ∈ stepsT N t → p.1.length < t.dp
  | .var n, p, h => by simp only [stepsT] at h; rw [own_short h]; simp
  | .leaf l, p, h => by simp only [stepsT] at h; rw [own_short h]; simp
  | .bin b x y, p, h => by
    simp only [stepsT, List.mem_append, List.mem_map] at h
    rcases h with h | ⟨q, h, rfl⟩ | ⟨q, h, rfl⟩
    · rw [own_short h]; simp
    · have := stepsT_short h; simp only [List.length_cons, T.dp]; omega
    · have := stepsT_short h; simp only [List.length_cons, T.dp]; omega
  | .tri b x y z, p, h => by
    simp only [stepsT, List.mem_append, List.mem_map] at h
    rcases h with h | ⟨q, h, rfl⟩ | ⟨q, h, rfl⟩ | ⟨q, h, rfl⟩
    · rw [own_short h]; simp
    · have := stepsT_short h; simp only [List.length_cons, T.dp]; omega
    · have := stepsT_short h; simp only [List.length_cons, T.dp]; omega
    · have := stepsT_short h; simp only [List.length_cons, T.dp]; omega
section
variable {P : Program} {w : World} {K : PySem.W.Frag} {mg : Str → Option Value} {base : Heap}
abbrev sp_steps (N : Nm) (d : Nat) : SpecD := spF (fun t : T => [gD N, toD t]) (fun t => t.ok ∧ t.dp ≤ d ∧ t.eats N ∧ t.sz ≤ 100000) fun t => .lst ((stepsT N t).map stpD)
theorem sc_steps_in : FnScope ["ground", "term", "found", "here", "some", "number", "part", "spot", "rule", "other", "whole"] ["ground", "term"] d_steps_in.scope := ⟨rfl, rfl, rfl, by decide +kernel, rfl, by decide +kernel, by decide +kernel⟩
theorem F_steps_in_of (Z : Tx P w K mg base) {N : Nm} (hN : N.Ok) {k d : Nat} (hd : d ≤ 57) (h : Fn P w K mg base (GC K) "steps_in" (k + 122) [] (sp_steps N d)) : Fn P w K mg base (GC K) "steps_in" (k + 123) [] (sp_steps N (d + 1)) := by
  refine fn_p0 Z (k := (k+122)) 36 rfl rfl rfl rfl sc_steps_in (by decide) (fun _ _ _ _ _ _ us hl => match us, hl with | [_, _], _ => rfl) (fun _ => rfl) (fun f cdv A outer s H E hr => by
    have sc := sc_steps_in
    exact (dss_cons (ds_own (i := 2) sc.nd (dl_lst da_nil)) (dss_cons (ds_set (i := 3) sc.nd (de_call (F_gone Z hN) (hr.mono (by omega)) (da_cons (de_var 0) (da_cons (de_var 1) da_nil)))) (dss_cons (ds_if (dt_cmp op_notN d2_notN (de_var 3) de_non (nomark _)) (dss_one (ds_append 2 (de_bin op_catA d2_catT (de_tup (da_cons (de_tup da_nil) da_nil)) (de_var 3)))) dss_nil) (dss_cons (ds_set (i := 4) sc.nd (DL.de (de_callL (F_inner Z) (hr.mono (by omega)) (da_cons (de_var 1) da_nil)))) (dss_cons (ds_for (di_enum rfl Z.f_enumerate (da_cons (de_var 4) da_nil)) (dg_tup rfl (dgs_cons (i := 5) sc.nd (dgs_cons (i := 6) sc.nd dgs_nil))) (dss_one (ds_for (di_list (de_call (h) (hr.mono (by omega)) (da_cons (de_var 0) (da_cons (de_var 6) da_nil)))) (dg_tup rfl (dgs_cons (i := 7) sc.nd (dgs_cons (i := 8) sc.nd (dgs_cons (i := 9) sc.nd dgs_nil)))) (dss_cons (ds_set (i := 10) sc.nd (de_call (F_with_parts Z) (hr.mono (by omega)) (da_cons (de_var 1) (da_cons (de_bin op_cat d2_catL (de_bin op_cat d2_catL (de_slice (de_var 4) do_none (do_some (de_var 5))) (de_lst (da_cons (de_var 9) da_nil))) (de_slice (de_var 4) (do_some (de_bin op_add d2_addI (de_var 5) de_int)) do_none)) da_nil)))) (dss_one (ds_append 2 (de_tup (da_cons (de_bin op_catA d2_catT (de_tup (da_cons (de_var 5) da_nil)) (de_var 7)) (da_cons (de_var 8) (da_cons (de_var 10) da_nil)))))))))) (dss_one (ds_frz 2 (ds_ret (de_var 2)))))))))) ?hg
  rintro t π ⟨h1, h2, h3, h4⟩
  have hlen := stepsT_len N t
  walk_at "kpe"
  refine x_f1 t rfl ⟨h1, by omega, h3⟩ ?_
  walk_at "kpe"
  have own : ∀ (X : DTs) (A : DEnds) (ρ : DEnv), ρ = [.pu (gD N), .pu (toD t), .ow [], .pu (ruleD (goneT N t)), .no, .no, .no, .no, .no, .no, .no] → X A [.pu (gD N), .pu (toD t), .ow ((ownSteps N t).map stpD), .pu (ruleD (goneT N t)), .no, .no, .no, .no, .no, .no, .no] π →
      (if (if true = true then !isNon (ruleD (goneT N t)) else isNon (ruleD (goneT N t))) = true then dApp (dBin kCatT (dTup (dCons (dTup dNil) dNil)) (dVar 3)) 2 { A with nx := X A } ρ π else dNext { A with nx := X A } ρ π) := by
    intro X A ρ e q
    subst e
    unfold ownSteps at q
    cases hg : goneT N t with
    | none =>
      rw [hg] at q
      repeat (first | (apply_rules (transparency := .reducible) (exfalso := false) (symm := false) (maxDepth := 1000) only [x_seq, x_next, x_ert, x_enx, x_ret, x_drop, x_asg, x_one, x_par, x_ifS, x_for, x_fo0, x_fo1, x_own, x_setL, x_c, x_nil, x_cons, x_tup, x_lst, x_bin, x_tst, x_exb, x_exi, x_exs, x_exl, x_ext2, x_1l, x_1t, x_1i, x_2i, x_ex1, x_ex2, x_and, x_or, x_not, x_if, x_ifL, x_andV, x_orV, x_notV, x_isi2, x_call, x_nop, x_part, x_sl, x_ownF, x_ownL, x_asL, x_lc, x_seL, x_seT, x_enL, x_enT, x_rng1, x_rng2, x_pset, x_meth, x_gnd, x_I0, x_eqI, x_eqS, x_isN, x_inT, x_in2, x_in5, x_slT, x_slL, x_int, x_listT, x_listL, x_tuple, x_max, x_min, x_rep0, x_rep2]) | refine x_many rfl ?_ | refine x_manyL rfl ?_ | refine x_var rfl ?_ | refine x_few (Nat.le_of_ble_eq_true rfl) ?_ | refine x_ixT rfl ?_ | refine x_ixL rfl ?_ | refine x_ixD rfl rfl ?_ | refine x_slD rfl ?_ | refine x_len rfl (Nat.le_of_ble_eq_true rfl) ?_ | refine x_lenO rfl (Nat.le_of_ble_eq_true rfl) ?_ | refine x_pix rfl rfl ?_ | refine x_catL (Nat.le_of_ble_eq_true rfl) ?_ | refine x_catT (Nat.le_of_ble_eq_true rfl) ?_ | refine x_catS (Nat.le_of_ble_eq_true rfl) ?_ | refine x_app rfl (Nat.lt_of_lt_of_le (Nat.lt_succ_self _) (Nat.le_of_ble_eq_true rfl)) ?_ | refine x_ext rfl ?_ | (refine x_isi ?_ ?_; focus (first | rfl | (simp; done))) | (refine x_if_t ?_ ?_; focus (first | rfl | (simp [ruleD]; done))) | (refine x_if_f ?_ ?_; focus (first | rfl | (simp [ruleD]; done))))
      exact q
    | some p =>
      rw [hg] at q
      repeat (first | (apply_rules (transparency := .reducible) (exfalso := false) (symm := false) (maxDepth := 1000) only [x_seq, x_next, x_ert, x_enx, x_ret, x_drop, x_asg, x_one, x_par, x_ifS, x_for, x_fo0, x_fo1, x_own, x_setL, x_c, x_nil, x_cons, x_tup, x_lst, x_bin, x_tst, x_exb, x_exi, x_exs, x_exl, x_ext2, x_1l, x_1t, x_1i, x_2i, x_ex1, x_ex2, x_and, x_or, x_not, x_if, x_ifL, x_andV, x_orV, x_notV, x_isi2, x_call, x_nop, x_part, x_sl, x_ownF, x_ownL, x_asL, x_lc, x_seL, x_seT, x_enL, x_enT, x_rng1, x_rng2, x_pset, x_meth, x_gnd, x_I0, x_eqI, x_eqS, x_isN, x_inT, x_in2, x_in5, x_slT, x_slL, x_int, x_listT, x_listL, x_tuple, x_max, x_min, x_rep0, x_rep2]) | refine x_many rfl ?_ | refine x_manyL rfl ?_ | refine x_var rfl ?_ | refine x_few (Nat.le_of_ble_eq_true rfl) ?_ | refine x_ixT rfl ?_ | refine x_ixL rfl ?_ | refine x_ixD rfl rfl ?_ | refine x_slD rfl ?_ | refine x_len rfl (Nat.le_of_ble_eq_true rfl) ?_ | refine x_lenO rfl (Nat.le_of_ble_eq_true rfl) ?_ | refine x_pix rfl rfl ?_ | refine x_catL (Nat.le_of_ble_eq_true rfl) ?_ | refine x_catT (Nat.le_of_ble_eq_true rfl) ?_ | refine x_catS (Nat.le_of_ble_eq_true rfl) ?_ | refine x_app rfl (Nat.lt_of_lt_of_le (Nat.lt_succ_self _) (Nat.le_of_ble_eq_true rfl)) ?_ | refine x_ext rfl ?_ | (refine x_isi ?_ ?_; focus (first | rfl | (simp; done))) | (refine x_if_t ?_ ?_; focus (first | rfl | (simp [ruleD]; done))) | (refine x_if_f ?_ ?_; focus (first | rfl | (simp [ruleD]; done))))
      exact q
  refine own _ _ _ rfl ?_
  walk_at "kpe"
  refine x_fL t rfl trivial ?_
  have ol := own_len N t
  generalize ho : ownSteps N t = os at ol
  generalize hr : ruleD (goneT N t) = rd
  cases t with
  | var n =>
    walk_at "kpe"
    try dsimp only [parts_var, parts_leaf, List.map_nil, enumD]
    walk_at "kpe"
    exact ⟨by rw [stepsT, ho], rfl⟩
  | leaf l =>
    walk_at "kpe"
    try dsimp only [parts_var, parts_leaf, List.map_nil, enumD]
    walk_at "kpe"
    exact ⟨by rw [stepsT, ho], rfl⟩
  | bin b x y =>
    simp only [T.ok] at h1
    simp only [T.dp] at h2
    simp only [T.eats] at h3
    simp only [T.sz] at h4
    obtain ⟨k1, k2⟩ := h1
    obtain ⟨e1, e2⟩ := h3
    have m1 := Nat.le_max_left x.dp y.dp
    have m2 := Nat.le_max_right x.dp y.dp
    have lx := stepsT_len N x
    have ly := stepsT_len N y
    walk_at "kpe"
    simp only [parts_bin, parts_tri, List.map_cons, List.map_nil, enumD]
    walk_at "kpe"
    refine x_f1 x rfl ⟨k1, by omega, e1, by omega⟩ ?_
    walk_at "kpe"
    refine foD_inv (I := fun ds ρ π' => ∃ (l' : List (List Int × Str × T)) (acc : List D) (s7 s8 s9 s10 : Sl), ds = l'.map stpD ∧ ρ = [.pu (gD N), .pu (toD (T.bin b x y)), .ow acc, .pu rd, .pu (.lst [toD x, toD y]), .pu (.int 0), .pu (toD x), s7, s8, s9, s10] ∧ acc ++ (l'.map fun p => stpD (0 :: p.1, p.2.1, .bin b p.2.2 y)) = os.map stpD ++ ((stepsT N x).map fun p => stpD (0 :: p.1, p.2.1, .bin b p.2.2 y)) ∧ (∀ p ∈ l', p ∈ stepsT N x) ∧ π = π') ?_ ?_ ⟨stepsT N x, os.map stpD, _, _, _, _, rfl, rfl, rfl, fun _ h => h, rfl⟩
    rotate_left
    · rintro dd r ρ π' B ⟨l', acc, s7, s8, s9, s10, e, e', e'', hin, e5⟩ hB
      cases l' with
      | nil => cases e
      | cons p l' =>
        simp only [List.map_cons, List.cons.injEq] at e
        obtain ⟨e, er⟩ := e
        subst e e' e5
        have hs := stepsT_short (hin p List.mem_cons_self)
        have lt := congrArg List.length e''
        simp only [List.length_append, List.length_map, List.length_cons] at lt
        refine x_many (ds := [spD p.1, .str p.2.1, toD p.2.2]) rfl ?_
        walk_at "kpe"
        refine x_f1 (b.s, [toD x, toD y], _) rfl (Nat.le_of_ble_eq_true rfl) ?_
        walk_at "kpe"
        refine x_app rfl (by omega) ?_
        walk_at "kpe"
        refine x_catT (es := p.1.map .int) (by simp only [List.length_map, List.length_cons, List.length_nil]; omega) ?_
        walk_at "kpe"
        refine hB _ _ ⟨l', acc ++ [stpD (0 :: p.1, p.2.1, .bin b p.2.2 y)], _, _, _, _, er, rfl, ?_, fun q hq => hin q (List.mem_cons_of_mem _ hq), rfl⟩
        rw [← e'']; simp
    rintro ρ π' ⟨l', acc, s7, s8, s9, s10, e, e', e'', hin, e5⟩
    have el : l' = [] := by cases l' with | nil => rfl | cons => cases e
    subst el e' e5
    simp only [List.map_nil, List.append_nil] at e''
    subst e''
    clear hin e
    walk_at "kpe"
    refine x_f1 y rfl ⟨k2, by omega, e2, by omega⟩ ?_
    walk_at "kpe"
    refine foD_inv (I := fun ds ρ π' => ∃ (l' : List (List Int × Str × T)) (acc : List D) (s7 s8 s9 s10 : Sl), ds = l'.map stpD ∧ ρ = [.pu (gD N), .pu (toD (T.bin b x y)), .ow acc, .pu rd, .pu (.lst [toD x, toD y]), .pu (.int 1), .pu (toD y), s7, s8, s9, s10] ∧ acc ++ (l'.map fun p => stpD (1 :: p.1, p.2.1, .bin b x p.2.2)) = os.map stpD ++ ((stepsT N x).map fun p => stpD (0 :: p.1, p.2.1, .bin b p.2.2 y)) ++ ((stepsT N y).map fun p => stpD (1 :: p.1, p.2.1, .bin b x p.2.2)) ∧ (∀ p ∈ l', p ∈ stepsT N y) ∧ π = π') ?_ ?_ ⟨stepsT N y, os.map stpD ++ ((stepsT N x).map fun p => stpD (0 :: p.1, p.2.1, .bin b p.2.2 y)), _, _, _, _, rfl, rfl, rfl, fun _ h => h, rfl⟩
    rotate_left
    · rintro dd r ρ π' B ⟨l', acc, s7, s8, s9, s10, e, e', e'', hin, e5⟩ hB
      cases l' with
      | nil => cases e
      | cons p l' =>
        simp only [List.map_cons, List.cons.injEq] at e
        obtain ⟨e, er⟩ := e
        subst e e' e5
        have hs := stepsT_short (hin p List.mem_cons_self)
        have lt := congrArg List.length e''
        simp only [List.length_append, List.length_map, List.length_cons] at lt
        refine x_many (ds := [spD p.1, .str p.2.1, toD p.2.2]) rfl ?_
        walk_at "kpe"
        refine x_f1 (b.s, [toD x, toD y], _) rfl (Nat.le_of_ble_eq_true rfl) ?_
        walk_at "kpe"
        refine x_app rfl (by omega) ?_
        walk_at "kpe"
        refine x_catT (es := p.1.map .int) (by simp only [List.length_map, List.length_cons, List.length_nil]; omega) ?_
        walk_at "kpe"
        refine hB _ _ ⟨l', acc ++ [stpD (1 :: p.1, p.2.1, .bin b x p.2.2)], _, _, _, _, er, rfl, ?_, fun q hq => hin q (List.mem_cons_of_mem _ hq), rfl⟩
        rw [← e'']; simp
    rintro ρ π' ⟨l', acc, s7, s8, s9, s10, e, e', e'', hin, e5⟩
    have el : l' = [] := by cases l' with | nil => rfl | cons => cases e
    subst el e' e5
    simp only [List.map_nil, List.append_nil] at e''
    subst e''
    clear hin e
    walk_at "kpe"
    refine ⟨?_, rfl⟩
    rw [stepsT, ho]
    simp only [List.map_append, List.map_map, List.append_assoc]; rfl
  | tri b x y z =>
    simp only [T.ok] at h1
    simp only [T.dp] at h2
    simp only [T.eats] at h3
    simp only [T.sz] at h4
    obtain ⟨k1, k2, k3⟩ := h1
    obtain ⟨e1, e2, e3⟩ := h3
    have m1 := Nat.le_max_left x.dp (max y.dp z.dp)
    have m2 := Nat.le_max_right x.dp (max y.dp z.dp)
    have m3 := Nat.le_max_left y.dp z.dp
    have m4 := Nat.le_max_right y.dp z.dp
    have lx := stepsT_len N x
    have ly := stepsT_len N y
    have lz := stepsT_len N z
    walk_at "kpe"
    simp only [parts_bin, parts_tri, List.map_cons, List.map_nil, enumD]
    walk_at "kpe"
    refine x_f1 x rfl ⟨k1, by omega, e1, by omega⟩ ?_
    walk_at "kpe"
    refine foD_inv (I := fun ds ρ π' => ∃ (l' : List (List Int × Str × T)) (acc : List D) (s7 s8 s9 s10 : Sl), ds = l'.map stpD ∧ ρ = [.pu (gD N), .pu (toD (T.tri b x y z)), .ow acc, .pu rd, .pu (.lst [toD x, toD y, toD z]), .pu (.int 0), .pu (toD x), s7, s8, s9, s10] ∧ acc ++ (l'.map fun p => stpD (0 :: p.1, p.2.1, .tri b p.2.2 y z)) = os.map stpD ++ ((stepsT N x).map fun p => stpD (0 :: p.1, p.2.1, .tri b p.2.2 y z)) ∧ (∀ p ∈ l', p ∈ stepsT N x) ∧ π = π') ?_ ?_ ⟨stepsT N x, os.map stpD, _, _, _, _, rfl, rfl, rfl, fun _ h => h, rfl⟩
    rotate_left
    · rintro dd r ρ π' B ⟨l', acc, s7, s8, s9, s10, e, e', e'', hin, e5⟩ hB
      cases l' with
      | nil => cases e
      | cons p l' =>
        simp only [List.map_cons, List.cons.injEq] at e
        obtain ⟨e, er⟩ := e
        subst e e' e5
        have hs := stepsT_short (hin p List.mem_cons_self)
        have lt := congrArg List.length e''
        simp only [List.length_append, List.length_map, List.length_cons] at lt
        refine x_many (ds := [spD p.1, .str p.2.1, toD p.2.2]) rfl ?_
        walk_at "kpe"
        refine x_f1 (b.s, [toD x, toD y, toD z], _) rfl (Nat.le_of_ble_eq_true rfl) ?_
        walk_at "kpe"
        refine x_app rfl (by omega) ?_
        walk_at "kpe"
        refine x_catT (es := p.1.map .int) (by simp only [List.length_map, List.length_cons, List.length_nil]; omega) ?_
        walk_at "kpe"
        refine hB _ _ ⟨l', acc ++ [stpD (0 :: p.1, p.2.1, .tri b p.2.2 y z)], _, _, _, _, er, rfl, ?_, fun q hq => hin q (List.mem_cons_of_mem _ hq), rfl⟩
        rw [← e'']; simp
    rintro ρ π' ⟨l', acc, s7, s8, s9, s10, e, e', e'', hin, e5⟩
    have el : l' = [] := by cases l' with | nil => rfl | cons => cases e
    subst el e' e5
    simp only [List.map_nil, List.append_nil] at e''
    subst e''
    clear hin e
    walk_at "kpe"
    refine x_f1 y rfl ⟨k2, by omega, e2, by omega⟩ ?_
    walk_at "kpe"
    refine foD_inv (I := fun ds ρ π' => ∃ (l' : List (List Int × Str × T)) (acc : List D) (s7 s8 s9 s10 : Sl), ds = l'.map stpD ∧ ρ = [.pu (gD N), .pu (toD (T.tri b x y z)), .ow acc, .pu rd, .pu (.lst [toD x, toD y, toD z]), .pu (.int 1), .pu (toD y), s7, s8, s9, s10] ∧ acc ++ (l'.map fun p => stpD (1 :: p.1, p.2.1, .tri b x p.2.2 z)) = os.map stpD ++ ((stepsT N x).map fun p => stpD (0 :: p.1, p.2.1, .tri b p.2.2 y z)) ++ ((stepsT N y).map fun p => stpD (1 :: p.1, p.2.1, .tri b x p.2.2 z)) ∧ (∀ p ∈ l', p ∈ stepsT N y) ∧ π = π') ?_ ?_ ⟨stepsT N y, os.map stpD ++ ((stepsT N x).map fun p => stpD (0 :: p.1, p.2.1, .tri b p.2.2 y z)), _, _, _, _, rfl, rfl, rfl, fun _ h => h, rfl⟩
    rotate_left
    · rintro dd r ρ π' B ⟨l', acc, s7, s8, s9, s10, e, e', e'', hin, e5⟩ hB
      cases l' with
      | nil => cases e
      | cons p l' =>
        simp only [List.map_cons, List.cons.injEq] at e
        obtain ⟨e, er⟩ := e
        subst e e' e5
        have hs := stepsT_short (hin p List.mem_cons_self)
        have lt := congrArg List.length e''
        simp only [List.length_append, List.length_map, List.length_cons] at lt
        refine x_many (ds := [spD p.1, .str p.2.1, toD p.2.2]) rfl ?_
        walk_at "kpe"
        refine x_f1 (b.s, [toD x, toD y, toD z], _) rfl (Nat.le_of_ble_eq_true rfl) ?_
        walk_at "kpe"
        refine x_app rfl (by omega) ?_
        walk_at "kpe"
        refine x_catT (es := p.1.map .int) (by simp only [List.length_map, List.length_cons, List.length_nil]; omega) ?_
        walk_at "kpe"
        refine hB _ _ ⟨l', acc ++ [stpD (1 :: p.1, p.2.1, .tri b x p.2.2 z)], _, _, _, _, er, rfl, ?_, fun q hq => hin q (List.mem_cons_of_mem _ hq), rfl⟩
        rw [← e'']; simp
    rintro ρ π' ⟨l', acc, s7, s8, s9, s10, e, e', e'', hin, e5⟩
    have el : l' = [] := by cases l' with | nil => rfl | cons => cases e
    subst el e' e5
    simp only [List.map_nil, List.append_nil] at e''
    subst e''
    clear hin e
    walk_at "kpe"
    refine x_f1 z rfl ⟨k3, by omega, e3, by omega⟩ ?_
    walk_at "kpe"
    refine foD_inv (I := fun ds ρ π' => ∃ (l' : List (List Int × Str × T)) (acc : List D) (s7 s8 s9 s10 : Sl), ds = l'.map stpD ∧ ρ = [.pu (gD N), .pu (toD (T.tri b x y z)), .ow acc, .pu rd, .pu (.lst [toD x, toD y, toD z]), .pu (.int 2), .pu (toD z), s7, s8, s9, s10] ∧ acc ++ (l'.map fun p => stpD (2 :: p.1, p.2.1, .tri b x y p.2.2)) = os.map stpD ++ ((stepsT N x).map fun p => stpD (0 :: p.1, p.2.1, .tri b p.2.2 y z)) ++ ((stepsT N y).map fun p => stpD (1 :: p.1, p.2.1, .tri b x p.2.2 z)) ++ ((stepsT N z).map fun p => stpD (2 :: p.1, p.2.1, .tri b x y p.2.2)) ∧ (∀ p ∈ l', p ∈ stepsT N z) ∧ π = π') ?_ ?_ ⟨stepsT N z, os.map stpD ++ ((stepsT N x).map fun p => stpD (0 :: p.1, p.2.1, .tri b p.2.2 y z)) ++ ((stepsT N y).map fun p => stpD (1 :: p.1, p.2.1, .tri b x p.2.2 z)), _, _, _, _, rfl, rfl, rfl, fun _ h => h, rfl⟩
    rotate_left
    · rintro dd r ρ π' B ⟨l', acc, s7, s8, s9, s10, e, e', e'', hin, e5⟩ hB
      cases l' with
      | nil => cases e
      | cons p l' =>
        simp only [List.map_cons, List.cons.injEq] at e
        obtain ⟨e, er⟩ := e
        subst e e' e5
        have hs := stepsT_short (hin p List.mem_cons_self)
        have lt := congrArg List.length e''
        simp only [List.length_append, List.length_map, List.length_cons] at lt
        refine x_many (ds := [spD p.1, .str p.2.1, toD p.2.2]) rfl ?_
        walk_at "kpe"
        refine x_f1 (b.s, [toD x, toD y, toD z], _) rfl (Nat.le_of_ble_eq_true rfl) ?_
        walk_at "kpe"
        refine x_app rfl (by omega) ?_
        walk_at "kpe"
        refine x_catT (es := p.1.map .int) (by simp only [List.length_map, List.length_cons, List.length_nil]; omega) ?_
        walk_at "kpe"
        refine hB _ _ ⟨l', acc ++ [stpD (2 :: p.1, p.2.1, .tri b x y p.2.2)], _, _, _, _, er, rfl, ?_, fun q hq => hin q (List.mem_cons_of_mem _ hq), rfl⟩
        rw [← e'']; simp
    rintro ρ π' ⟨l', acc, s7, s8, s9, s10, e, e', e'', hin, e5⟩
    have el : l' = [] := by cases l' with | nil => rfl | cons => cases e
    subst el e' e5
    simp only [List.map_nil, List.append_nil] at e''
    subst e''
    clear hin e
    walk_at "kpe"
    refine ⟨?_, rfl⟩
    rw [stepsT, ho]
    simp only [List.map_append, List.map_map, List.append_assoc]; rfl
theorem F_steps_in (Z : Tx P w K mg base) {N : Nm} (hN : N.Ok) : ∀ d : Nat, d ≤ 58 → Fn P w K mg base (GC K) "steps_in" (d + 122) [] (sp_steps N d)
  | 0, _ => by
    refine fn_void Z 36 rfl rfl rfl rfl (ps := ["ground", "term"]) (fun _ _ _ _ _ _ us hl => match us, hl with | [_, _], _ => rfl) ?_
    rintro ds π Q ⟨t, e, ⟨h1, h2, h3⟩, q⟩
    have := t.dp_pos
    omega
  | d + 1, h => F_steps_in_of Z hN (by omega) (F_steps_in Z hN d (by omega))
end
end Kp
set_option maxRecDepth 100000
set_option maxHeartbeats 2000000
/-! M4: spots and parts of terms, the way of first steps -/
namespace Kp
open PySem PySem.Spec L2
theorem part_good {N : Nm} : ∀ {t : T} {sp : List Int} {u : T} {c : Int}, t.part sp = some (u, c) → (sp ∈ t.spots ∧ sp.length < t.dp ∧ ∀ n ∈ sp, 0 ≤ n) ∧ (t.ok → u.ok) ∧ u.dp ≤ t.dp ∧ (t.eats N → u.eats N)
  | t, [], u, c, h => by
    have e : t = u := by cases t <;> simp [T.part] at h <;> exact h.1
    subst e
    refine ⟨⟨by cases t <;> simp [T.spots], by have := t.dp_pos; simp; omega, by simp⟩, id, Nat.le_refl _, id⟩
  | .var n, k :: sp, u, c, h => by simp [T.part] at h
  | .leaf l, k :: sp, u, c, h => by simp [T.part] at h
  | .bin b x y, k :: sp, u, c, h => by
    simp only [T.part] at h
    split at h
    · rename_i k0
      obtain ⟨⟨a1, a2, a3⟩, a4, a5, a6⟩ := part_good (N := N) h
      refine ⟨⟨by simp [T.spots, k0, a1], by simp only [List.length_cons, T.dp]; omega, ?_⟩, fun z => a4 z.1, by simp only [T.dp]; omega, fun z => a6 z.1⟩
      intro n hn
      rcases List.mem_cons.mp hn with e | hn
      · omega
      · exact a3 n hn
    · split at h
      · rename_i k0 k1
        cases hp : y.part sp with
        | none => rw [hp] at h; cases h
        | some q =>
          rw [hp] at h
          simp at h
          have hq : y.part sp = some (u, q.2) := by rw [hp, ← h.1]
          obtain ⟨⟨a1, a2, a3⟩, a4, a5, a6⟩ := part_good (N := N) hq
          refine ⟨⟨by simp [T.spots, k1, a1], by simp only [List.length_cons, T.dp]; omega, ?_⟩, fun z => a4 z.2, by simp only [T.dp]; omega, fun z => a6 z.2⟩
          intro n hn
          rcases List.mem_cons.mp hn with e | hn
          · omega
          · exact a3 n hn
      · cases h
  | .tri b x y z, k :: sp, u, c, h => by
    simp only [T.part] at h
    have fin : ∀ n ∈ k :: sp, 0 ≤ k → (∀ n ∈ sp, 0 ≤ n) → 0 ≤ n := fun n hn h0 a3 => by
      rcases List.mem_cons.mp hn with e | hn
      · omega
      · exact a3 n hn
    split at h
    · rename_i k0
      obtain ⟨⟨a1, a2, a3⟩, a4, a5, a6⟩ := part_good (N := N) h
      exact ⟨⟨by simp [T.spots, k0, a1], by simp only [List.length_cons, T.dp]; omega, fun n hn => fin n hn (by omega) a3⟩, fun z => a4 z.1, by simp only [T.dp]; omega, fun z => a6 z.1⟩
    · split at h
      · rename_i k0 k1
        obtain ⟨⟨a1, a2, a3⟩, a4, a5, a6⟩ := part_good (N := N) h
        exact ⟨⟨by simp [T.spots, k1, a1], by simp only [List.length_cons, T.dp]; omega, fun n hn => fin n hn (by omega) a3⟩, fun z => a4 z.2.1, by simp only [T.dp]; omega, fun z => a6 z.2.1⟩
      · split at h
        · rename_i k0 k1 k2
          obtain ⟨⟨a1, a2, a3⟩, a4, a5, a6⟩ := part_good (N := N) h
          exact ⟨⟨by simp [T.spots, k2, a1], by simp only [List.length_cons, T.dp]; omega, fun n hn => fin n hn (by omega) a3⟩, fun z => a4 z.2.2, by simp only [T.dp]; omega, fun z => a6 z.2.2⟩
        · cases h
/-- a step is a rule at a part -/
theorem own_part {N : Nm} {t : T} {p : List Int × Str × T} (h : p ∈ ownSteps N t) : p.1 = [] ∧ goneT N t = some (p.2.1, p.2.2) := by
  unfold ownSteps at h
  split at h
  · cases h
  · rename_i q e
    simp only [List.mem_singleton] at h
    subst h
    exact ⟨rfl, e⟩
theorem stepsT_part {N : Nm} : ∀ {t : T} {p : List Int × Str × T}, p ∈ stepsT N t → ∃ u c v, t.part p.1 = some (u, c) ∧ goneT N u = some (p.2.1, v) ∧ p.2.2 = t.put p.1 v
  | .var n, p, h => by
    obtain ⟨e1, e2⟩ := own_part (by simpa only [stepsT] using h)
    rw [e1]; exact ⟨_, 0, p.2.2, rfl, e2, rfl⟩
  | .leaf l, p, h => by
    obtain ⟨e1, e2⟩ := own_part (by simpa only [stepsT] using h)
    rw [e1]; exact ⟨_, 0, p.2.2, rfl, e2, rfl⟩
  | .bin b x y, p, h => by
    simp only [stepsT, List.mem_append, List.mem_map] at h
    rcases h with h | ⟨q, h, rfl⟩ | ⟨q, h, rfl⟩
    · obtain ⟨e1, e2⟩ := own_part h
      rw [e1]; exact ⟨_, 0, p.2.2, rfl, e2, rfl⟩
    · obtain ⟨u, c, v, h1, h2, h3⟩ := stepsT_part h
      exact ⟨u, c, v, by simpa [T.part] using h1, h2, by simp [T.put, h3]⟩
    · obtain ⟨u, c, v, h1, h2, h3⟩ := stepsT_part h
      exact ⟨u, c + b.bd, v, by simp [T.part, h1], h2, by simp [T.put, h3]⟩
  | .tri b x y z, p, h => by
    simp only [stepsT, List.mem_append, List.mem_map] at h
    rcases h with h | ⟨q, h, rfl⟩ | ⟨q, h, rfl⟩ | ⟨q, h, rfl⟩
    · obtain ⟨e1, e2⟩ := own_part h
      rw [e1]; exact ⟨_, 0, p.2.2, rfl, e2, rfl⟩
    · obtain ⟨u, c, v, h1, h2, h3⟩ := stepsT_part h
      exact ⟨u, c, v, by simpa [T.part] using h1, h2, by simp [T.put, h3]⟩
    · obtain ⟨u, c, v, h1, h2, h3⟩ := stepsT_part h
      exact ⟨u, c, v, by simpa [T.part] using h1, h2, by simp [T.put, h3]⟩
    · obtain ⟨u, c, v, h1, h2, h3⟩ := stepsT_part h
      exact ⟨u, c, v, by simpa [T.part] using h1, h2, by simp [T.put, h3]⟩
theorem own_head {N : Nm} {t : T} (h : (goneT N t).isSome = true) : ∃ r v, goneT N t = some (r, v) ∧ ownSteps N t = [([], r, v)] := by
  cases e : goneT N t with
  | none => rw [e] at h; cases h
  | some p => exact ⟨p.1, p.2, rfl, by unfold ownSteps; rw [e]⟩
theorem own_nil {N : Nm} {t : T} (h : ¬ (goneT N t).isSome = true) : ownSteps N t = [] := by
  unfold ownSteps
  cases e : goneT N t with
  | none => rfl
  | some p => rw [e] at h; exact absurd rfl h
/-- the first step is the head of the steps -/
theorem firstT_eq (N : Nm) : ∀ t : T, firstT N t = ((stepsT N t).head?).map (·.1)
  | .var n => by
    by_cases h : (goneT N (.var n)).isSome = true
    · obtain ⟨r, v, e, e2⟩ := own_head h
      simp [firstT, stepsT, h, e2]
    · simp [firstT, stepsT, own_nil h]; simpa using h
  | .leaf l => by
    by_cases h : (goneT N (.leaf l)).isSome = true
    · obtain ⟨r, v, e, e2⟩ := own_head h
      simp [firstT, stepsT, h, e2]
    · simp [firstT, stepsT, own_nil h]; simpa using h
  | .bin b x y => by
    by_cases h : (goneT N (.bin b x y)).isSome = true
    · obtain ⟨r, v, e, e2⟩ := own_head h
      simp [firstT, stepsT, h, e2]
    · have i1 := firstT_eq N x
      have i2 := firstT_eq N y
      simp only [firstT, if_neg h, stepsT, own_nil h, List.nil_append, i1, i2]
      cases stepsT N x with
      | nil => cases stepsT N y <;> simp
      | cons p l => simp
  | .tri b x y z => by
    by_cases h : (goneT N (.tri b x y z)).isSome = true
    · obtain ⟨r, v, e, e2⟩ := own_head h
      simp [firstT, stepsT, h, e2]
    · have i1 := firstT_eq N x
      have i2 := firstT_eq N y
      have i3 := firstT_eq N z
      simp only [firstT, if_neg h, stepsT, own_nil h, List.nil_append, i1, i2, i3]
      cases stepsT N x with
      | nil =>
        cases stepsT N y with
        | nil => cases stepsT N z <;> simp
        | cons p l => simp
      | cons p l => simp
/-- what the walk asks of a term -/
structure Gd (N : Nm) (t : T) : Prop where
  ok : t.ok
  dp : t.dp ≤ 56
  ea : t.eats N
  sz : t.sz ≤ 100000
/-- from t by first steps to r, at the spots sps -/
inductive Way (N : Nm) : T → List (List Int) → T → Prop
  | stop {t : T} : Gd N t → stepsT N t = [] → Way N t [] t
  | step {t r : T} {p : List Int × Str × T} {l : List (List Int × Str × T)} {sps : List (List Int)} : Gd N t → stepsT N t = p :: l → Way N p.2.2 sps r → Way N t (p.1 :: sps) r
theorem any_spots (sp : List Int) : ∀ l : List (List Int), ((l.map spD).any fun z => eqd z (spD sp)) = decide (sp ∈ l)
  | [] => by simp
  | s :: l => by
    have ih := any_spots sp l
    simp only [List.map_cons, List.any_cons, ih, eqd_spD]
    by_cases h : s = sp
    · simp [h]
    · have : ¬ sp = s := fun z => h z.symm
      simp [h, this]
theorem dats_spots : ∀ l : List (List Int), dats (l.map spD) = true
  | [] => rfl
  | s :: l => by simp [dats, dats_spots l]
theorem deps_spots : ∀ l : List (List Int), deps (l.map spD) ≤ 1
  | [] => by simp [deps]
  | s :: l => by have := deps_spots l; simp [deps]; omega
end Kp
set_option maxRecDepth 100000
set_option maxHeartbeats 2000000
/-! M5: raising and giving; sayings -/
namespace Kp
open PySem PySem.Spec L2
/-- all free places lie below k -/
def T.low : T → Int → Prop
  | .var n, k => n < k
  | .leaf _, _ => True
  | .bin b x y, k => x.low k ∧ y.low (k + b.bd)
  | .tri _ x y z, k => x.low k ∧ y.low k ∧ z.low k
theorem T.low_raise : ∀ {t : T} {k s : Int} (b : Int), t.low k → k ≤ s → t.raise b s = t
  | .var n, k, s, b, h, hs => by
    simp only [T.low] at h
    simp only [T.raise]
    rw [if_neg (by omega)]
  | .leaf l, _, _, _, _, _ => rfl
  | .bin c x y, k, s, b, h, hs => by
    simp only [T.raise]
    rw [T.low_raise b h.1 hs, T.low_raise b h.2 (by omega)]
  | .tri c x y z, k, s, b, h, hs => by
    simp only [T.raise]
    rw [T.low_raise b h.1 hs, T.low_raise b h.2.1 hs, T.low_raise b h.2.2 hs]
/-- a place made free again: given anything for the place that raising by one left out -/
theorem T.give_raise : ∀ (t x : T) (b : Int), (t.raise 1 b).give x 0 b = t
  | .var n, x, b => by
    simp only [T.raise]
    by_cases h : b ≤ n
    · rw [if_pos h]
      simp only [T.give]
      rw [if_neg (by omega), if_pos (by omega)]
      congr 1; omega
    · rw [if_neg h]
      simp only [T.give]
      rw [if_neg (by omega), if_neg (by omega)]
  | .leaf l, x, b => rfl
  | .bin c u v, x, b => by
    simp only [T.raise, T.give]
    rw [u.give_raise x b, v.give_raise x (b + c.bd)]
  | .tri c u v w, x, b => by
    simp only [T.raise, T.give]
    rw [u.give_raise x b, v.give_raise x b, w.give_raise x b]
theorem T.raise_raise : ∀ (x : T) (m s c : Int), 0 ≤ m → 0 ≤ s → (x.raise m c).raise 1 (s + m + c) = (x.raise 1 (s + c)).raise m c
  | .var n, m, s, c, h1, h2 => by
    simp only [T.raise]
    by_cases a : c ≤ n
    · rw [if_pos a]
      by_cases b : s + c ≤ n
      · rw [if_pos b]
        simp only [T.raise]
        rw [if_pos (by omega), if_pos (by omega)]
        congr 1; omega
      · rw [if_neg b]
        simp only [T.raise]
        rw [if_neg (by omega), if_pos (by omega)]
    · rw [if_neg a, if_neg (by omega)]
      simp only [T.raise]
      rw [if_neg (by omega), if_neg (by omega)]
  | .leaf l, m, s, c, h1, h2 => rfl
  | .bin b x y, m, s, c, h1, h2 => by
    simp only [T.raise]
    have e1 := y.raise_raise m s (c + b.bd) h1 h2
    rw [x.raise_raise m s c h1 h2]
    have e2 : s + m + c + b.bd = s + m + (c + b.bd) := by omega
    have e3 : s + c + b.bd = s + (c + b.bd) := by omega
    rw [e2, e3, e1]
  | .tri b x y z, m, s, c, h1, h2 => by
    simp only [T.raise]
    rw [x.raise_raise m s c h1 h2, y.raise_raise m s c h1 h2, z.raise_raise m s c h1 h2]
theorem T.raise_give : ∀ (t x : T) (s m : Int), 0 ≤ s → 0 ≤ m → (t.give x 0 m).raise 1 (s + m) = (t.raise 1 (s + m + 1)).give (x.raise 1 s) 0 m
  | .var n, x, s, m, h1, h2 => by
    simp only [T.give, T.raise]
    by_cases a : n = 0 + m
    · rw [if_pos a, if_neg (by omega)]
      simp only [T.give]
      rw [if_pos a]
      have := x.raise_raise m s 0 h2 h1
      simpa using this
    · rw [if_neg a]
      by_cases b : 0 + m < n
      · rw [if_pos b]
        by_cases c : s + m + 1 ≤ n
        · rw [if_pos c]
          simp only [T.give, T.raise]
          rw [if_pos (by omega), if_neg (by omega), if_pos (by omega)]
          congr 1; omega
        · rw [if_neg c]
          simp only [T.give, T.raise]
          rw [if_neg (by omega), if_neg a, if_pos b]
      · rw [if_neg b, if_neg (by omega)]
        simp only [T.give, T.raise]
        rw [if_neg (by omega), if_neg a, if_neg b]
  | .leaf l, x, s, m, h1, h2 => rfl
  | .bin b u v, x, s, m, h1, h2 => by
    simp only [T.raise, T.give]
    have hb : 0 ≤ b.bd := by cases b <;> decide
    have e1 := v.raise_give x s (m + b.bd) h1 (by omega)
    rw [u.raise_give x s m h1 h2]
    have e2 : s + m + b.bd = s + (m + b.bd) := by omega
    have e3 : s + m + 1 + b.bd = s + (m + b.bd) + 1 := by omega
    rw [e2, e3, e1]
  | .tri b u v z, x, s, m, h1, h2 => by
    simp only [T.raise, T.give]
    rw [u.raise_give x s m h1 h2, v.raise_give x s m h1 h2, z.raise_give x s m h1 h2]
end Kp
set_option maxRecDepth 100000
set_option maxHeartbeats 2000000
/-! M6: steps commute with raising -/
namespace Kp
open PySem PySem.Spec L2
theorem open_raise (b s : Int) : ∀ t : T, (t.raise b s).open = (t.open.1.raise b s, t.open.2.map fun u => u.raise b s)
  | .var n => by simp only [T.raise, T.open]; split <;> rfl
  | .leaf l => rfl
  | .tri c x y z => rfl
  | .bin c x y => by
    cases c with
    | ap =>
      have ih := open_raise b s x
      simp only [T.raise, T.open, bd_ap, Int.add_zero]
      rw [ih]; simp
    | al => rfl
    | fn => rfl
    | sf => rfl
theorem numT_raise (N : Nm) (b s : Int) : ∀ n, (numT N n).raise b s = numT N n
  | 0 => rfl
  | n + 1 => by simp only [numT, T.raise]; rw [numT_raise N b _ n]
theorem flipT_raise (N : Nm) (b s : Int) (h : 0 ≤ s) : (flipT N).raise b s = flipT N := by
  simp only [flipT, T.raise, bd_fn, bd_ap, Int.add_zero]
  rw [if_neg (by omega)]
theorem eatT_raise (N : Nm) (t : T) (s : Int) : eatT N (t.raise 1 s) = (eatT N t).map fun u => u.raise 1 s := by
  unfold eatT
  rw [open_raise]
  cases h : t.open with
  | mk hd as =>
    simp only
    cases hd with
    | var n => by_cases hs : s ≤ n <;> simp [T.raise, hs]
    | bin b x y => rfl
    | tri b x y z => rfl
    | leaf l =>
      cases l with
      | eater e k =>
        match as with
        | [] => rfl
        | [_] => rfl
        | [_, _] => rfl
        | [_, _, _] => rfl
        | _ :: _ :: _ :: _ :: _ :: _ => rfl
        | [sd, z, st, la] =>
          simp only [List.map_cons, List.map_nil, T.raise]
          rw [open_raise]
          cases h2 : la.open with
          | mk m held =>
            simp only
            cases m with
            | var n => by_cases hs : s ≤ n <;> simp [T.raise, hs]
            | bin b x y => rfl
            | tri b x y z => rfl
            | leaf l =>
              cases l with
              | maker m k2 =>
                match held with
                | [] => simp only [T.raise, List.map_nil]; (repeat' split) <;> simp_all [T.raise]
                | [n] => simp only [T.raise, List.map_cons, List.map_nil]; (repeat' split) <;> simp_all [T.raise]
                | _ :: _ :: _ => simp only [T.raise, List.map_cons]; (repeat' split) <;> simp_all [T.raise]
              | _ => rfl
      | _ => rfl
abbrev rsT (s : Int) (p : Str × T) : Str × T := (p.1, p.2.raise 1 s)
theorem goneT_raise (N : Nm) : ∀ (t : T) (s : Int), 0 ≤ s → goneT N (t.raise 1 s) = (goneT N t).map (rsT s)
  | .var n, s, hs => by simp only [T.raise]; split <;> rfl
  | .leaf l, s, hs => by
    cases l with
    | name x =>
      simp only [T.raise, goneT]
      split
      · simp [rsT, numT_raise]
      · split
        · simp [rsT, flipT_raise N 1 s hs]
        · rfl
    | _ => rfl
  | .tri b x y z, s, hs => by
    cases b with
    | sm => rfl
    | pt =>
      cases y with
      | var n => by_cases h : s ≤ n <;> simp [T.raise, goneT, h]
      | leaf l => rfl
      | tri b u v w => rfl
      | bin b u v => cases b <;> rfl
  | .bin b x y, s, hs => by
    cases b with
    | al => rfl
    | fn => rfl
    | sf => rfl
    | ap =>
      have e := eatT_raise N (.bin .ap x y) s
      cases x with
      | var n =>
        by_cases h : s ≤ n
        · simp only [T.raise, if_pos h, bd_ap, Int.add_zero] at e ⊢
          simp only [goneT, e]
          cases eatT N (.bin .ap (.var n) y) <;> rfl
        · simp only [T.raise, if_neg h, bd_ap, Int.add_zero] at e ⊢
          simp only [goneT, e]
          cases eatT N (.bin .ap (.var n) y) <;> rfl
      | leaf l =>
        simp only [T.raise, bd_ap, Int.add_zero] at e ⊢
        simp only [goneT, e]
        cases eatT N (.bin .ap (.leaf l) y) <;> rfl
      | tri b u v w =>
        simp only [T.raise, bd_ap, Int.add_zero] at e ⊢
        simp only [goneT, e]
        cases eatT N (.bin .ap (.tri b u v w) y) <;> rfl
      | bin b u v =>
        cases b with
        | fn =>
          simp only [T.raise, bd_ap, bd_fn, Int.add_zero, goneT, Option.map, rsT]
          have := v.raise_give y s 0 hs (Int.le_refl _)
          simp only [Int.add_zero] at this
          rw [this]
        | al =>
          simp only [T.raise, bd_ap, Int.add_zero] at e ⊢
          simp only [goneT, e]
          cases eatT N (.bin .ap (.bin .al u v) y) <;> rfl
        | ap =>
          simp only [T.raise, bd_ap, Int.add_zero] at e ⊢
          simp only [goneT, e]
          cases eatT N (.bin .ap (.bin .ap u v) y) <;> rfl
        | sf =>
          simp only [T.raise, bd_ap, Int.add_zero] at e ⊢
          simp only [goneT, e]
          cases eatT N (.bin .ap (.bin .sf u v) y) <;> rfl
abbrev rsS (s : Int) (p : List Int × Str × T) : List Int × Str × T := (p.1, p.2.1, p.2.2.raise 1 s)
theorem own_raise (N : Nm) (t : T) (s : Int) (hs : 0 ≤ s) : ownSteps N (t.raise 1 s) = (ownSteps N t).map (rsS s) := by
  unfold ownSteps
  rw [goneT_raise N t s hs]
  cases goneT N t <;> rfl
theorem stepsT_raise (N : Nm) : ∀ (t : T) (s : Int), 0 ≤ s → stepsT N (t.raise 1 s) = (stepsT N t).map (rsS s)
  | .var n, s, hs => by
    have := own_raise N (.var n) s hs
    simp only [T.raise] at this ⊢
    by_cases h : s ≤ n
    · rw [if_pos h] at this ⊢; simpa only [stepsT] using this
    · rw [if_neg h] at this ⊢; simpa only [stepsT] using this
  | .leaf l, s, hs => by
    have := own_raise N (.leaf l) s hs
    simpa only [stepsT, T.raise] using this
  | .bin b x y, s, hs => by
    have h0 := own_raise N (.bin b x y) s hs
    have hb : 0 ≤ b.bd := by cases b <;> decide
    have h1 := stepsT_raise N x s hs
    have h2 := stepsT_raise N y (s + b.bd) (by omega)
    simp only [T.raise] at h0 ⊢
    simp only [stepsT, h0, h1, h2, List.map_append, List.map_map]
    rfl
  | .tri b x y z, s, hs => by
    have h0 := own_raise N (.tri b x y z) s hs
    have h1 := stepsT_raise N x s hs
    have h2 := stepsT_raise N y s hs
    have h3 := stepsT_raise N z s hs
    simp only [T.raise] at h0 ⊢
    simp only [stepsT, h0, h1, h2, h3, List.map_append, List.map_map]
    rfl
end Kp
set_option maxRecDepth 100000
set_option maxHeartbeats 2000000
/-! M7: each row of steps ends, at one term: bounds, the step back, contexts -/
namespace Kp
open PySem PySem.Spec L2
theorem raise_dp (b s : Int) : ∀ t : T, (t.raise b s).dp = t.dp := by
  intro t
  induction t generalizing s with
  | var n => simp only [T.raise]; split <;> rfl
  | leaf l => rfl
  | bin c x y hx hy => simp only [T.raise, T.dp, hx, hy]
  | tri c x y z hx hy hz => simp only [T.raise, T.dp, hx, hy, hz]
theorem raise_sz (b s : Int) : ∀ t : T, (t.raise b s).sz = t.sz := by
  intro t
  induction t generalizing s with
  | var n => simp only [T.raise]; split <;> rfl
  | leaf l => rfl
  | bin c x y hx hy => simp only [T.raise, T.sz, hx, hy]
  | tri c x y z hx hy hz => simp only [T.raise, T.sz, hx, hy, hz]
theorem raise_ok {b : Int} (hb : 0 ≤ b) (s : Int) : ∀ {t : T}, t.ok → (t.raise b s).ok := by
  intro t
  induction t generalizing s with
  | var n => intro h; simp only [T.raise]; split <;> simp only [T.ok] at h ⊢ <;> omega
  | leaf l => exact id
  | bin c x y hx hy => intro h; exact ⟨hx s h.1, hy _ h.2⟩
  | tri c x y z hx hy hz => intro h; exact ⟨hx s h.1, hy _ h.2.1, hz _ h.2.2⟩
theorem raise_eats {N : Nm} (b s : Int) : ∀ {t : T}, t.eats N → (t.raise b s).eats N := by
  intro t
  induction t generalizing s with
  | var n => intro h; simp only [T.raise]; split <;> trivial
  | leaf l => exact id
  | bin c x y hx hy => intro h; exact ⟨hx s h.1, hy _ h.2⟩
  | tri c x y z hx hy hz => intro h; exact ⟨hx s h.1, hy _ h.2.1, hz _ h.2.2⟩
theorem raise_zero (s : Int) : ∀ t : T, t.raise 0 s = t := by
  intro t
  induction t generalizing s with
  | var n => simp only [T.raise]; split <;> simp
  | leaf l => rfl
  | bin c x y hx hy => simp only [T.raise, hx, hy]
  | tri c x y z hx hy hz => simp only [T.raise, hx, hy, hz]
/-- a term within bounds -/
structure Bd (N : Nm) (d m : Nat) (t : T) : Prop where
  ok : t.ok
  ea : t.eats N
  dp : t.dp ≤ d
  sz : t.sz ≤ m
theorem Bd.up {N : Nm} {d m d' m' : Nat} {t : T} (h : Bd N d m t) (h1 : d ≤ d') (h2 : m ≤ m') : Bd N d' m' t := ⟨h.ok, h.ea, Nat.le_trans h.dp h1, Nat.le_trans h.sz h2⟩
theorem Bd.raise {N : Nm} {d m : Nat} {t : T} (h : Bd N d m t) {b : Int} (hb : 0 ≤ b) (s : Int) : Bd N d m (t.raise b s) := ⟨raise_ok hb s h.ok, raise_eats b s h.ea, by rw [raise_dp]; exact h.dp, by rw [raise_sz]; exact h.sz⟩
theorem Bd.bin {N : Nm} {d m n : Nat} {x y : T} (b : Bn) (h1 : Bd N d m x) (h2 : Bd N d n y) : Bd N (d + 1) (m + n + 1) (.bin b x y) :=
  ⟨⟨h1.ok, h2.ok⟩, ⟨h1.ea, h2.ea⟩, by have := h1.dp; have := h2.dp; simp only [T.dp]; omega, by have := h1.sz; have := h2.sz; simp only [T.sz]; omega⟩
theorem Bd.tri {N : Nm} {d m n o : Nat} {x y z : T} (b : Tr) (h1 : Bd N d m x) (h2 : Bd N d n y) (h3 : Bd N d o z) : Bd N (d + 1) (m + n + o + 1) (.tri b x y z) :=
  ⟨⟨h1.ok, h2.ok, h3.ok⟩, ⟨h1.ea, h2.ea, h3.ea⟩, by have := h1.dp; have := h2.dp; have := h3.dp; simp only [T.dp]; omega, by have := h1.sz; have := h2.sz; have := h3.sz; simp only [T.sz]; omega⟩
/-- no steps -/
def Nf (N : Nm) (t : T) : Prop := stepsT N t = []
theorem Nf.raise {N : Nm} {t : T} (h : Nf N t) {s : Int} (hs : 0 ≤ s) : Nf N (t.raise 1 s) := by
  unfold Nf at h ⊢
  rw [stepsT_raise N t s hs, h]; rfl
/-- every row of steps from t ends at r behind f steps at most, within bounds -/
def Ev (N : Nm) (d m : Nat) (r : T) : Nat → T → Prop
  | 0, t => Bd N d m t ∧ Nf N t ∧ t = r
  | f + 1, t => Bd N d m t ∧ (Nf N t → t = r) ∧ ∀ p ∈ stepsT N t, Ev N d m r f p.2.2
section
variable {N : Nm} {d m d' m' : Nat} {r r' : T}
theorem Ev.bd : ∀ {f : Nat} {t : T}, Ev N d m r f t → Bd N d m t
  | 0, _, h => h.1
  | _ + 1, _, h => h.1
theorem Ev.nf : ∀ {f : Nat} {t : T}, Ev N d m r f t → Nf N t → t = r
  | 0, _, h, _ => h.2.2
  | _ + 1, _, h, n => h.2.1 n
theorem Ev.up : ∀ {f g : Nat} {t : T}, f ≤ g → d ≤ d' → m ≤ m' → Ev N d m r f t → Ev N d' m' r g t
  | 0, 0, _, _, h1, h2, h => ⟨h.1.up h1 h2, h.2⟩
  | 0, g + 1, _, _, h1, h2, h => ⟨h.1.up h1 h2, fun _ => h.2.2, fun p hp => by have e : stepsT N _ = [] := h.2.1; rw [e] at hp; cases hp⟩
  | f + 1, 0, _, l, _, _, _ => absurd l (Nat.not_succ_le_zero f)
  | f + 1, g + 1, _, l, h1, h2, h => ⟨h.1.up h1 h2, h.2.1, fun p hp => Ev.up (Nat.le_of_succ_le_succ l) h1 h2 (h.2.2 p hp)⟩
theorem Ev.out {f : Nat} {t : T} (h : Ev N d m r f t) : ∀ p ∈ stepsT N t, ∃ g, f = g + 1 ∧ Ev N d m r g p.2.2 := fun p hp => by
  cases f with
  | zero => have e : stepsT N t = [] := h.2.1; rw [e] at hp; cases hp
  | succ f => exact ⟨f, rfl, h.2.2 p hp⟩
theorem Ev.into {f : Nat} {t : T} (h : Bd N d m t) (h1 : Nf N t → t = r) (h2 : ∀ p ∈ stepsT N t, ∃ g, g < f ∧ Ev N d m r g p.2.2) : Ev N d m r f t := by
  cases f with
  | zero =>
    have e : Nf N t := List.eq_nil_iff_forall_not_mem.mpr fun p hp => let ⟨g, l, _⟩ := h2 p hp; absurd l (Nat.not_lt_zero g)
    exact ⟨h, e, h1 e⟩
  | succ f => exact ⟨h, h1, fun p hp => let ⟨g, l, e⟩ := h2 p hp; e.up (Nat.le_of_lt_succ l) (Nat.le_refl _) (Nat.le_refl _)⟩
/-- what a row of steps ends at has none -/
theorem Ev.end_nf : ∀ {f : Nat} {t : T}, Ev N d m r f t → Nf N r ∧ Bd N d m r
  | 0, t, h => by have e := h.2.2; subst e; exact ⟨h.2.1, h.1⟩
  | f + 1, t, h => by
    by_cases n : Nf N t
    · have e := h.2.1 n; subst e; exact ⟨n, h.1⟩
    · obtain ⟨p, hp⟩ := List.exists_mem_of_ne_nil _ n
      exact (h.2.2 p hp).end_nf
theorem ev_nf {t : T} (h : Bd N d m t) (n : Nf N t) : Ev N d m t 0 t := ⟨h, n, rfl⟩
/-! ### contexts -/
theorem ev_ctx {c : T → T} {k : Nat} (hB : ∀ u, Bd N d m u → Bd N d' m' (c u)) (hS : ∀ u f, Ev N d m r f u → ∀ p ∈ stepsT N (c u), (∃ q ∈ stepsT N u, p.2.2 = c q.2.2) ∨ ∃ g, g < f + k ∧ Ev N d' m' r' g p.2.2)
    (hN : ∀ u f, Ev N d m r f u → Nf N (c u) → c u = r') : ∀ {f : Nat} {u : T}, Ev N d m r f u → Ev N d' m' r' (f + k) (c u) := by
  intro f
  induction f with
  | zero =>
    intro u h
    refine Ev.into (hB u h.bd) (hN u 0 h) fun p hp => ?_
    rcases hS u 0 h p hp with ⟨q, hq, _⟩ | q
    · obtain ⟨g, e, _⟩ := h.out q hq; cases e
    · exact q
  | succ f ih =>
    intro u h
    refine Ev.into (hB u h.bd) (hN u _ h) fun p hp => ?_
    rcases hS u _ h p hp with ⟨q, hq, e⟩ | q
    · rw [e]; exact ⟨f + k, by omega, ih (h.2.2 q hq)⟩
    · exact q
theorem ev_ctx2 {c : T → T → T} {k : Nat} {d1 m1 : Nat} {r1 r2 : T} (J : T → Prop) (hJ : ∀ u, J u → ∀ q ∈ stepsT N u, J q.2.2) (hB : ∀ u v, Bd N d m u → Bd N d1 m1 v → Bd N d' m' (c u v))
    (hS : ∀ u v f g, J u → Ev N d m r1 f u → Ev N d1 m1 r2 g v → ∀ p ∈ stepsT N (c u v), (∃ q ∈ stepsT N u, p.2.2 = c q.2.2 v) ∨ (∃ q ∈ stepsT N v, p.2.2 = c u q.2.2) ∨ ∃ e, e < f + g + k ∧ Ev N d' m' r' e p.2.2)
    (hN : ∀ u v f g, J u → Ev N d m r1 f u → Ev N d1 m1 r2 g v → Nf N (c u v) → c u v = r') : ∀ {n f g : Nat} {u v : T}, f + g = n → J u → Ev N d m r1 f u → Ev N d1 m1 r2 g v → Ev N d' m' r' (f + g + k) (c u v) := by
  intro n
  induction n with
  | zero =>
    intro f g u v e j h1 h2
    refine Ev.into (hB u v h1.bd h2.bd) (hN u v f g j h1 h2) fun p hp => ?_
    rcases hS u v f g j h1 h2 p hp with ⟨q, hq, _⟩ | ⟨q, hq, _⟩ | q
    · obtain ⟨g, e, _⟩ := h1.out q hq; omega
    · obtain ⟨g, e, _⟩ := h2.out q hq; omega
    · exact q
  | succ n ih =>
    intro f g u v e j h1 h2
    refine Ev.into (hB u v h1.bd h2.bd) (hN u v f g j h1 h2) fun p hp => ?_
    rcases hS u v f g j h1 h2 p hp with ⟨q, hq, e1⟩ | ⟨q, hq, e1⟩ | q
    · obtain ⟨f', e2, h3⟩ := h1.out q hq
      rw [e1]; exact ⟨f' + g + k, by omega, ih (by omega) (hJ u j q hq) h3 h2⟩
    · obtain ⟨g', e2, h3⟩ := h2.out q hq
      rw [e1]; exact ⟨f + g' + k, by omega, ih (by omega) j h1 h3⟩
    · exact q
end
/-! ### steps of a whole -/
theorem mem_own {N : Nm} {t : T} {p : List Int × Str × T} : p ∈ ownSteps N t ↔ p.1 = [] ∧ goneT N t = some (p.2.1, p.2.2) := by
  unfold ownSteps
  cases goneT N t with
  | none => simp
  | some q =>
    obtain ⟨a, b, c⟩ := p
    obtain ⟨x, y⟩ := q
    simp only [List.mem_singleton, Prod.mk.injEq, Option.some.injEq]
    exact ⟨fun ⟨h1, h2, h3⟩ => ⟨h1, h2.symm, h3.symm⟩, fun ⟨h1, h2, h3⟩ => ⟨h1, h2.symm, h3.symm⟩⟩
theorem bin_steps {N : Nm} {b : Bn} {x y : T} {p : List Int × Str × T} (h : p ∈ stepsT N (.bin b x y)) : goneT N (.bin b x y) = some (p.2.1, p.2.2) ∨ (∃ q ∈ stepsT N x, p.2.2 = .bin b q.2.2 y) ∨ ∃ q ∈ stepsT N y, p.2.2 = .bin b x q.2.2 := by
  simp only [stepsT, List.mem_append, List.mem_map] at h
  rcases h with h | ⟨q, h, rfl⟩ | ⟨q, h, rfl⟩
  · exact .inl (mem_own.mp h).2
  · exact .inr (.inl ⟨q, h, rfl⟩)
  · exact .inr (.inr ⟨q, h, rfl⟩)
theorem tri_steps {N : Nm} {b : Tr} {x y z : T} {p : List Int × Str × T} (h : p ∈ stepsT N (.tri b x y z)) : goneT N (.tri b x y z) = some (p.2.1, p.2.2) ∨ (∃ q ∈ stepsT N x, p.2.2 = .tri b q.2.2 y z) ∨ (∃ q ∈ stepsT N y, p.2.2 = .tri b x q.2.2 z) ∨ ∃ q ∈ stepsT N z, p.2.2 = .tri b x y q.2.2 := by
  simp only [stepsT, List.mem_append, List.mem_map] at h
  rcases h with h | ⟨q, h, rfl⟩ | ⟨q, h, rfl⟩ | ⟨q, h, rfl⟩
  · exact .inl (mem_own.mp h).2
  · exact .inr (.inl ⟨q, h, rfl⟩)
  · exact .inr (.inr (.inl ⟨q, h, rfl⟩))
  · exact .inr (.inr (.inr ⟨q, h, rfl⟩))
theorem Nf.no {N : Nm} {t : T} (h : Nf N t) {p : List Int × Str × T} : p ∉ stepsT N t := by
  unfold Nf at h; rw [h]; exact List.not_mem_nil
theorem nf_iff {N : Nm} {t : T} : Nf N t ↔ ∀ p, p ∉ stepsT N t := List.eq_nil_iff_forall_not_mem
theorem nf_own {N : Nm} {t : T} (h : Nf N t) : goneT N t = none := by
  unfold Nf at h
  cases e : goneT N t with
  | none => rfl
  | some q =>
    have : ([], q.1, q.2) ∈ ownSteps N t := mem_own.mpr ⟨rfl, e⟩
    cases t with
    | var n => simp only [stepsT] at h; rw [h] at this; cases this
    | leaf l => simp only [stepsT] at h; rw [h] at this; cases this
    | bin b x y => simp only [stepsT, List.append_eq_nil_iff] at h; rw [h.1] at this; cases this
    | tri b x y z => simp only [stepsT, List.append_eq_nil_iff] at h; rw [h.1] at this; cases this
theorem nf_bin {N : Nm} {b : Bn} {x y : T} : Nf N (.bin b x y) ↔ goneT N (.bin b x y) = none ∧ Nf N x ∧ Nf N y := by
  constructor
  · intro h
    refine ⟨nf_own h, ?_⟩
    unfold Nf at h ⊢
    simp only [stepsT, List.append_eq_nil_iff, List.map_eq_nil_iff] at h
    exact h.2
  · intro ⟨h1, h2, h3⟩
    refine nf_iff.mpr fun p hp => ?_
    rcases bin_steps hp with h | ⟨q, hq, _⟩ | ⟨q, hq, _⟩
    · rw [h1] at h; cases h
    · exact h2.no hq
    · exact h3.no hq
theorem nf_tri {N : Nm} {b : Tr} {x y z : T} : Nf N (.tri b x y z) ↔ goneT N (.tri b x y z) = none ∧ Nf N x ∧ Nf N y ∧ Nf N z := by
  constructor
  · intro h
    refine ⟨nf_own h, ?_⟩
    unfold Nf at h ⊢
    simp only [stepsT, List.append_eq_nil_iff, List.map_eq_nil_iff] at h
    exact h.2
  · intro ⟨h1, h2, h3, h4⟩
    refine nf_iff.mpr fun p hp => ?_
    rcases tri_steps hp with h | ⟨q, hq, _⟩ | ⟨q, hq, _⟩ | ⟨q, hq, _⟩
    · rw [h1] at h; cases h
    · exact h2.no hq
    · exact h3.no hq
    · exact h4.no hq
theorem nf_var {N : Nm} {n : Int} : Nf N (.var n) := rfl
theorem nf_leaf {N : Nm} {l : Lf} (h : ∀ s, l ≠ .name s) : Nf N (.leaf l) := by
  cases l with
  | name s => exact absurd rfl (h s)
  | _ => rfl
theorem nf_fn {N : Nm} {x y : T} (h1 : Nf N x) (h2 : Nf N y) : Nf N (.bin .fn x y) := nf_bin.mpr ⟨rfl, h1, h2⟩
theorem nf_al {N : Nm} {x y : T} (h1 : Nf N x) (h2 : Nf N y) : Nf N (.bin .al x y) := nf_bin.mpr ⟨rfl, h1, h2⟩
theorem nf_sf {N : Nm} {x y : T} (h1 : Nf N x) (h2 : Nf N y) : Nf N (.bin .sf x y) := nf_bin.mpr ⟨rfl, h1, h2⟩
theorem nf_sm {N : Nm} {x y z : T} (h1 : Nf N x) (h2 : Nf N y) (h3 : Nf N z) : Nf N (.tri .sm x y z) := nf_tri.mpr ⟨rfl, h1, h2, h3⟩
/-- the head is a maker or a thing -/
def Mh (t : T) : Prop := ∃ s, (∃ k, t.open.1 = .leaf (.maker s k)) ∨ t.open.1 = .leaf (.thing s)
theorem mh_gone {N : Nm} {t : T} (h : Mh t) : goneT N t = none := by
  obtain ⟨s, h⟩ := h
  cases t with
  | var n => simp [T.open] at h
  | tri b x y z => simp [T.open] at h
  | leaf l =>
    cases l with
    | name x => simp [T.open] at h
    | _ => rfl
  | bin b x y =>
    cases b with
    | ap =>
      have he : eatT N (.bin .ap x y) = none := by
        unfold eatT
        have : (T.bin .ap x y).open = ((T.bin .ap x y).open.1, (T.bin .ap x y).open.2) := rfl
        rw [this]
        rcases h with ⟨k, h⟩ | h <;> rw [h]
      cases x with
      | bin b u v =>
        cases b with
        | fn => simp [T.open] at h
        | _ => simp only [goneT, he, Option.map_none]
      | _ => simp only [goneT, he, Option.map_none]
    | _ => rfl
theorem mh_ap {x y : T} : Mh (.bin .ap x y) ↔ Mh x := Iff.rfl
theorem mh_step {N : Nm} : ∀ {t : T}, Mh t → ∀ q ∈ stepsT N t, Mh q.2.2
  | .var n, h, q, hq => by obtain ⟨s, h⟩ := h; simp [T.open] at h
  | .tri b x y z, h, q, hq => by obtain ⟨s, h⟩ := h; simp [T.open] at h
  | .leaf l, h, q, hq => by
    have g := mh_gone (N := N) h
    simp only [stepsT] at hq
    have := (mem_own.mp hq).2
    rw [g] at this; cases this
  | .bin b x y, h, q, hq => by
    have g := mh_gone (N := N) h
    cases b with
    | ap =>
      rcases bin_steps hq with e | ⟨p, hp, e⟩ | ⟨p, hp, e⟩
      · rw [g] at e; cases e
      · rw [e]; exact mh_ap.mpr (mh_step (mh_ap.mp h) p hp)
      · rw [e]; exact mh_ap.mpr (mh_ap.mp h)
    | al => obtain ⟨s, h⟩ := h; simp [T.open] at h
    | fn => obtain ⟨s, h⟩ := h; simp [T.open] at h
    | sf => obtain ⟨s, h⟩ := h; simp [T.open] at h
theorem nf_ap {N : Nm} {x y : T} (h : Mh x) (h1 : Nf N x) (h2 : Nf N y) : Nf N (.bin .ap x y) := nf_bin.mpr ⟨mh_gone (mh_ap.mpr h), h1, h2⟩
theorem mh_mk {s : Str} {k : Int} : Mh (tMk s k) := ⟨s, .inl ⟨k, rfl⟩⟩
theorem mh_th {s : Str} : Mh (tTh s) := ⟨s, .inr rfl⟩
theorem nf_numT (N : Nm) : ∀ k, Nf N (numT N k)
  | 0 => nf_leaf (fun _ => nofun)
  | k + 1 => nf_ap mh_mk (nf_leaf (fun _ => nofun)) (nf_numT N k)
end Kp
set_option maxRecDepth 100000
set_option maxHeartbeats 2000000
/-! M8: what the law makes ends at what it says -/
namespace Kp
open PySem PySem.Spec L2
section
variable {N : Nm} {d m : Nat} {r : T}
theorem eats_eater {s : Str} {h : Int} (e : s = N.num ∨ s = N.bit) : (T.leaf (.eater s h)).eats N := e
theorem bd_leaf {l : Lf} (h : l.ok) (e : (T.leaf l).eats N) (h1 : 1 ≤ d) (h2 : 1 ≤ m) : Bd N d m (.leaf l) := ⟨h, e, h1, h2⟩
theorem bd_var {n : Int} (h : 0 ≤ n) (h1 : 1 ≤ d) (h2 : 1 ≤ m) : Bd N d m (.var n) := ⟨h, trivial, h1, h2⟩
theorem nf_mk {s : Str} {k : Int} : Nf N (.leaf (.maker s k)) := rfl
theorem nf_th {s : Str} : Nf N (.leaf (.thing s)) := rfl
theorem nf_et {s : Str} {k : Int} : Nf N (.leaf (.eater s k)) := rfl
theorem nf_kd {k : Int} : Nf N (.leaf (.kind k)) := rfl
theorem Nm.Ok.num (h : N.Ok) : okName N.num := h.ok _ (by simp [Nm.all])
theorem Nm.Ok.bit (h : N.Ok) : okName N.bit := h.ok _ (by simp [Nm.all])
theorem Nm.Ok.num_bit (h : N.Ok) : N.num ≠ N.bit := fun e => by have := h.nd; simp [Nm.all, e] at this
theorem Nm.Ok.two_flip (h : N.Ok) : N.two ≠ N.flip := fun e => by have := h.nd; simp [Nm.all, e] at this
theorem bd_numT (h : N.Ok) : ∀ k, Bd N (k + 1) (2 * k + 1) (numT N k)
  | 0 => bd_leaf ⟨h.num, Int.le_refl _⟩ trivial (by omega) (by omega)
  | k + 1 => by
    have e := bd_numT h k
    have q := Bd.bin (N := N) .ap (bd_leaf (d := k + 1) (m := 1) (l := .maker N.num 1) ⟨h.num, by decide⟩ trivial (by omega) (by omega)) e
    exact q.up (by omega) (by omega)
/-- under a binder -/
theorem ev_lam {S : T} {f n : Nat} {t : T} (hS : Bd N d n S) (nS : Nf N S) (h : Ev N d m r f t) : Ev N (d + 1) (n + m + 1) (.bin .fn S r) f (.bin .fn S t) := by
  refine ev_ctx (c := fun u => .bin .fn S u) (k := 0) (fun u hu => Bd.bin .fn hS hu) (fun u f hu p hp => ?_) (fun u f hu n => ?_) h
  · rcases bin_steps hp with e | ⟨q, hq, _⟩ | ⟨q, hq, e⟩
    · cases e
    · exact absurd hq nS.no
    · exact .inl ⟨q, hq, e⟩
  · rw [hu.nf (nf_bin.mp n).2.2]
/-- (fun S, 0) given t -/
theorem ev_id {S : T} {f n : Nat} {t : T} (hS : Bd N d n S) (nS : Nf N S) (h : Ev N (d + 1) m r f t) : Ev N (d + 2) (m + n + 3) r (f + 1) (.bin .ap (.bin .fn S (.var 0)) t) := by
  refine ev_ctx (c := fun u => .bin .ap (.bin .fn S (.var 0)) u) (k := 1) (fun u hu => ?_) (fun u f hu p hp => ?_) (fun u f hu n => ?_) h
  · have h1 : 1 ≤ d := Nat.le_trans S.dp_pos hS.dp
    have q := Bd.bin (N := N) .ap (Bd.bin .fn hS (bd_var (N := N) (d := d) (m := 1) (Int.le_refl 0) h1 (Nat.le_refl _))) hu
    exact q.up (Nat.le_refl _) (by omega)
  · rcases bin_steps hp with e | ⟨q, hq, _⟩ | ⟨q, hq, e⟩
    · simp only [goneT, T.give, Int.add_zero, if_true, raise_zero, Option.some.injEq, Prod.mk.injEq] at e
      rw [← e.2]
      exact .inr ⟨f, by omega, hu.up (Nat.le_refl _) (by omega) (by omega)⟩
    · exact absurd hq (nf_fn nS nf_var).no
    · exact .inl ⟨q, hq, e⟩
  · have := nf_own n
    cases this
/-- (fun S, t raised) given n -/
theorem ev_const {S v : T} {f n k : Nat} {t : T} (hS : Bd N d n S) (nS : Nf N S) (hv : Bd N (d + 1) k v) (nv : Nf N v) (h : Ev N d m r f t) : Ev N (d + 2) (m + n + k + 2) r (f + 1) (.bin .ap (.bin .fn S (t.raise 1 0)) v) := by
  refine ev_ctx (c := fun u => .bin .ap (.bin .fn S (u.raise 1 0)) v) (k := 1) (fun u hu => ?_) (fun u f hu p hp => ?_) (fun u f hu n => ?_) h
  · have q := Bd.bin (N := N) .ap (Bd.bin .fn hS (hu.raise (b := 1) (by decide) 0)) hv
    exact q.up (Nat.le_refl _) (by omega)
  · rcases bin_steps hp with e | ⟨q, hq, e1⟩ | ⟨q, hq, _⟩
    · simp only [goneT, T.give_raise, Option.some.injEq, Prod.mk.injEq] at e
      rw [← e.2]
      exact .inr ⟨f, by omega, hu.up (Nat.le_refl _) (by omega) (by omega)⟩
    · rcases bin_steps hq with e | ⟨q2, hq2, _⟩ | ⟨q2, hq2, e2⟩
      · cases e
      · exact absurd hq2 nS.no
      · rw [stepsT_raise N u 0 (Int.le_refl _)] at hq2
        obtain ⟨q3, hq3, rfl⟩ := List.mem_map.mp hq2
        exact .inl ⟨q3, hq3, by rw [e1, e2]⟩
    · exact absurd hq nv.no
  · have := nf_own n
    cases this
/-- t put by a self -/
theorem ev_put {S A v : T} {f n a k : Nat} {t : T} (hS : Bd N d n S) (nS : Nf N S) (hA : Bd N d a A) (nA : Nf N A) (hv : Bd N d k v) (nv : Nf N v) (h : Ev N d m r f t) : Ev N (d + 2) (n + a + k + m + 2) r (f + 1) (.tri .pt S (.bin .sf A v) t) := by
  refine ev_ctx (c := fun u => .tri .pt S (.bin .sf A v) u) (k := 1) (fun u hu => ?_) (fun u f hu p hp => ?_) (fun u f hu n => ?_) h
  · have q := Bd.tri (N := N) .pt (hS.up (Nat.le_succ _) (Nat.le_refl _)) (Bd.bin .sf hA hv) (hu.up (Nat.le_succ _) (Nat.le_refl _))
    exact q.up (Nat.le_refl _) (by omega)
  · rcases tri_steps hp with e | ⟨q, hq, _⟩ | ⟨q, hq, _⟩ | ⟨q, hq, e⟩
    · simp only [goneT, Option.some.injEq, Prod.mk.injEq] at e
      rw [← e.2]
      exact .inr ⟨f, by omega, hu.up (Nat.le_refl _) (by omega) (by omega)⟩
    · exact absurd hq nS.no
    · exact absurd hq (nf_sf nA nv).no
    · exact .inl ⟨q, hq, e⟩
  · have := nf_own n
    cases this
/-- a maker's or a thing's row of terms -/
theorem ev_ap {f g m2 : Nat} {x y r2 : T} (hx : Mh x) (h1 : Ev N d m r f x) (h2 : Ev N d m2 r2 g y) : Ev N (d + 1) (m + m2 + 1) (.bin .ap r r2) (f + g) (.bin .ap x y) := by
  refine ev_ctx2 (c := fun u v => .bin .ap u v) (k := 0) Mh (fun u hu q hq => mh_step hu q hq) (fun u v hu hv => Bd.bin .ap hu hv) (fun u v f g hm hu hv p hp => ?_) (fun u v f g hm hu hv n => ?_) rfl hx h1 h2
  · rcases bin_steps hp with e | ⟨q, hq, e⟩ | ⟨q, hq, e⟩
    · rw [mh_gone (mh_ap.mpr hm)] at e; cases e
    · exact .inl ⟨q, hq, e⟩
    · exact .inr (.inl ⟨q, hq, e⟩)
  · have q := nf_bin.mp n
    rw [hu.nf q.2.1, hv.nf q.2.2]
/-! ### eaters -/
abbrev eT (s : Str) (h : Int) (S x y l : T) : T := .bin .ap (.bin .ap (.bin .ap (.bin .ap (.leaf (.eater s h)) S) x) y) l
theorem eat1 {s : Str} {h : Int} {S : T} : goneT N (.bin .ap (.leaf (.eater s h)) S) = none := rfl
theorem eat2 {s : Str} {h : Int} {S x : T} : goneT N (.bin .ap (.bin .ap (.leaf (.eater s h)) S) x) = none := rfl
theorem eat3 {s : Str} {h : Int} {S x y : T} : goneT N (.bin .ap (.bin .ap (.bin .ap (.leaf (.eater s h)) S) x) y) = none := rfl
theorem eT_steps {s : Str} {h : Int} {S x y l : T} {p : List Int × Str × T} (nS : Nf N S) (nl : Nf N l) (hp : p ∈ stepsT N (eT s h S x y l)) :
    goneT N (eT s h S x y l) = some (p.2.1, p.2.2) ∨ (∃ q ∈ stepsT N x, p.2.2 = eT s h S q.2.2 y l) ∨ ∃ q ∈ stepsT N y, p.2.2 = eT s h S x q.2.2 l := by
  rcases bin_steps hp with e | ⟨q, hq, e⟩ | ⟨q, hq, e⟩
  · exact .inl e
  · rcases bin_steps hq with e1 | ⟨q1, hq1, e1⟩ | ⟨q1, hq1, e1⟩
    · rw [eat3] at e1; cases e1
    · rcases bin_steps hq1 with e2 | ⟨q2, hq2, e2⟩ | ⟨q2, hq2, e2⟩
      · rw [eat2] at e2; cases e2
      · rcases bin_steps hq2 with e3 | ⟨q3, hq3, e3⟩ | ⟨q3, hq3, e3⟩
        · rw [eat1] at e3; cases e3
        · exact absurd hq3 nf_et.no
        · exact absurd hq3 nS.no
      · exact .inr (.inl ⟨q2, hq2, by rw [e, e1, e2]⟩)
    · exact .inr (.inr ⟨q1, hq1, by rw [e, e1]⟩)
  · exact absurd hq nl.no
theorem bd_eT {s : Str} {h : Int} {S x y l : T} {n a b c : Nat} (hN : N.Ok) (hs : s = N.num ∨ s = N.bit) (hh : 0 ≤ h ∧ h ≤ 5) (hS : Bd N (d + 1) n S) (hx : Bd N (d + 2) a x) (hy : Bd N (d + 3) b y) (hl : Bd N (d + 4) c l) : Bd N (d + 5) (n + a + b + c + 5) (eT s h S x y l) := by
  have hok : okName s := by
    rcases hs with e | e
    · rw [e]; exact hN.num
    · rw [e]; exact hN.bit
  have q := Bd.bin (N := N) .ap (Bd.bin .ap (Bd.bin .ap (Bd.bin .ap (bd_leaf (N := N) (d := d + 1) (m := 1) (l := .eater s h) ⟨hok, hh⟩ (eats_eater hs) (by omega) (by omega)) hS) hx) hy) hl
  exact q.up (Nat.le_refl _) (by omega)
theorem gone_bit {h : Int} {S x y : T} {b : Nat} (hN : N.Ok) (hb : b = 0 ∨ b = 1) : goneT N (eT N.bit h S x y (tMk N.bit b)) = some (("eat" : Str), if b = 0 then x else y) := by
  have ne : ¬ N.bit = N.num := fun e => hN.num_bit e.symm
  rcases hb with e | e <;> subst e <;> simp [goneT, eatT, T.open, ne]
theorem ev_bit {h : Int} {S x y : T} {n f g b : Nat} (hN : N.Ok) (hh : 0 ≤ h ∧ h ≤ 5) (hS : Bd N (d + 1) n S) (nS : Nf N S) (hb : b = 0 ∨ b = 1) (h1 : Ev N (d + 2) m r f x) (h2 : Ev N (d + 2) m r g y) :
    Ev N (d + 5) (n + m + m + 6) r (f + g + 1) (eT N.bit h S x y (tMk N.bit b)) := by
  have nl : Nf N (tMk N.bit b) := nf_leaf (fun _ => nofun)
  refine ev_ctx2 (c := fun u v => eT N.bit h S u v (tMk N.bit b)) (k := 1) (fun _ => True) (fun _ _ _ _ => trivial) (fun u v hu hv => ?_) (fun u v f g _ hu hv p hp => ?_) (fun u v f g _ hu hv n => ?_) rfl trivial h1 h2
  · exact (bd_eT (c := 1) hN (.inr rfl) hh hS hu (hv.up (by omega) (Nat.le_refl _)) (bd_leaf (l := .maker N.bit b) ⟨hN.bit, Int.natCast_nonneg _⟩ trivial (by omega) (by omega))).up (by omega) (by omega)
  · rcases eT_steps nS nl hp with e | ⟨q, hq, e⟩ | ⟨q, hq, e⟩
    · rw [gone_bit hN hb] at e
      simp only [Option.some.injEq, Prod.mk.injEq] at e
      refine .inr (.inr ?_)
      rw [← e.2]
      rcases hb with e | e <;> subst e
      · exact ⟨f, by omega, hu.up (Nat.le_refl _) (by omega) (by omega)⟩
      · exact ⟨g, by omega, hv.up (Nat.le_refl _) (by omega) (by omega)⟩
    · exact .inl ⟨q, hq, e⟩
    · exact .inr (.inl ⟨q, hq, e⟩)
  · have := nf_own n
    rw [gone_bit hN hb] at this
    cases this
/-- what num's eater does: the step -/
abbrev stT (N : Nm) (S : T) : T := .bin .fn (tTh N.num) (.bin .fn (S.raise 1 0) (.var 0))
theorem nf_stT {S : T} (nS : Nf N S) : Nf N (stT N S) := nf_fn (nf_leaf (fun _ => nofun)) (nf_fn (nS.raise (Int.le_refl _)) nf_var)
theorem ev_step {S v : T} {f n k : Nat} {t : T} (hN : N.Ok) (hd : 1 ≤ d) (hS : Bd N d n S) (nS : Nf N S) (hv : Bd N d k v) (nv : Nf N v) (h : Ev N (d + 3) m r f t) : Ev N (d + 4) (m + n + k + 6) r (f + 2) (.bin .ap (.bin .ap (stT N S) v) t) := by
  refine ev_ctx (c := fun u => .bin .ap (.bin .ap (stT N S) v) u) (k := 2) (fun u hu => ?_) (fun u f hu p hp => ?_) (fun u f hu n => ?_) h
  · have q := Bd.bin (N := N) .ap (Bd.bin .ap (Bd.bin .fn (bd_leaf (N := N) (d := d + 1) (m := 1) (l := .thing N.num) hN.num trivial (by omega) (by omega)) (Bd.bin .fn (hS.raise (b := 1) (by decide) 0) (bd_var (d := d) (m := 1) (Int.le_refl 0) hd (Nat.le_refl _)))) (hv.up (d' := d + 2) (by omega) (Nat.le_refl _))) hu
    exact q.up (Nat.le_refl _) (by omega)
  · rcases bin_steps hp with e | ⟨q, hq, e1⟩ | ⟨q, hq, e⟩
    · simp [goneT, eatT, T.open] at e
    · rcases bin_steps hq with e | ⟨q2, hq2, _⟩ | ⟨q2, hq2, _⟩
      · simp only [goneT, T.give, bd_fn, Option.some.injEq, Prod.mk.injEq, T.give_raise] at e
        refine .inr ⟨f + 1, by omega, ?_⟩
        rw [e1, ← e.2]
        have := ev_id (N := N) (d := d + 2) (hS.up (by omega) (Nat.le_refl _)) nS hu
        exact this.up (Nat.le_refl _) (by omega) (by omega)
      · exact absurd hq2 (nf_stT nS).no
      · exact absurd hq2 nv.no
    · exact .inl ⟨q, hq, e⟩
  · have := (nf_bin.mp n).2.1
    have := nf_own this
    cases this
theorem gone_num0 {h : Int} {S x y : T} : goneT N (eT N.num h S x y (numT N 0)) = some (("eat" : Str), x) := by
  simp [goneT, eatT, T.open, numT]
theorem gone_num1 {h : Int} {S x y : T} {k : Nat} : goneT N (eT N.num h S x y (numT N (k + 1))) = some (("eat" : Str), T.bin .ap (.bin .ap y (numT N k)) (eT N.num h S x y (numT N k))) := by
  simp [goneT, eatT, T.open, numT]
theorem ev_num {h : Int} {S P : T} {n : Nat} (hN : N.Ok) (hh : 0 ≤ h ∧ h ≤ 5) (hS : Bd N (d + 1) n S) (nS : Nf N S) (hP : Bd N (d + 1) n P) (nP : Nf N P) : ∀ (k : Nat) {f : Nat} {t : T}, k ≤ 2 → Ev N (d + 2) m r f t →
    Ev N (d + 5 + k) (m + 2 * n + 14 + k * (n + 11)) r (f + 1 + 3 * k) (eT N.num h P t (stT N S) (numT N k))
  | k, f, t, hk, ht => by
    have e0 : f + 1 + 3 * k = f + (1 + 3 * k) := by omega
    rw [e0]
    refine ev_ctx (c := fun u => eT N.num h P u (stT N S) (numT N k)) (k := 1 + 3 * k) (fun u hu => ?_) (fun u f hu p hp => ?_) (fun u f hu n => ?_) ht
    · have h1 : Bd N (d + 3) (n + 4) (stT N S) := (Bd.bin (N := N) .fn (bd_leaf (N := N) (d := d + 2) (m := 1) (l := .thing N.num) hN.num trivial (by omega) (by omega)) (Bd.bin .fn (hS.raise (b := 1) (by decide) 0) (bd_var (d := d + 1) (m := 1) (Int.le_refl 0) (by omega) (Nat.le_refl _)))).up (by omega) (by omega)
      have h2 := bd_numT hN k
      exact (bd_eT (c := 5) hN (.inl rfl) hh hP hu h1 (h2.up (by omega) (by omega))).up (by omega) (by omega)
    · rcases eT_steps nP (nf_numT N k) hp with e | ⟨q, hq, e⟩ | ⟨q, hq, _⟩
      · cases k with
        | zero =>
          rw [gone_num0] at e
          simp only [Option.some.injEq, Prod.mk.injEq] at e
          rw [← e.2]
          exact .inr ⟨f, by omega, hu.up (Nat.le_refl _) (by omega) (by omega)⟩
        | succ k =>
          rw [gone_num1] at e
          simp only [Option.some.injEq, Prod.mk.injEq] at e
          rw [← e.2]
          have ih := ev_num hN hh hS nS hP nP k (by omega) hu
          have q := ev_step (N := N) (d := d + 2 + k) hN (by omega) (hS.up (by omega) (Nat.le_refl _)) nS ((bd_numT hN k).up (m' := 5) (by omega) (by omega)) (nf_numT N k) (ih.up (Nat.le_refl _) (by omega) (Nat.le_refl _))
          refine .inr ⟨_, ?_, q.up (Nat.le_refl _) (by omega) ?_⟩
          · omega
          · rw [Nat.add_mul]; omega
      · exact .inl ⟨q, hq, e⟩
      · exact absurd hq (nf_stT nS).no
    · have := nf_own n
      cases k with
      | zero => rw [gone_num0] at this; cases this
      | succ k => rw [gone_num1] at this; cases this
/-! ### two, flip -/
theorem ev_two (hN : N.Ok) : Ev N 3 5 (numT N 2) 1 (.leaf (.name N.two)) := by
  refine Ev.into (bd_leaf (hN.ok _ (by simp [Nm.all])) trivial (by decide) (by decide)) (fun n => ?_) fun p hp => ?_
  · have := nf_own n
    simp [goneT] at this
  · simp only [stepsT] at hp
    have e := (mem_own.mp hp).2
    simp only [goneT, if_true, Option.some.injEq, Prod.mk.injEq] at e
    rw [← e.2]
    exact ⟨0, by omega, ev_nf (bd_numT hN 2) (nf_numT N 2)⟩
theorem ev_flip (hN : N.Ok) {b : Nat} (hb : b = 0 ∨ b = 1) : Ev N 8 15 (tMk N.bit (1 - (b : Int))) 3 (.bin .ap (.leaf (.name N.flip)) (tMk N.bit b)) := by
  have nb : ∀ k : Int, Nf N (tMk N.bit k) := fun k => nf_leaf (fun _ => nofun)
  have bb : ∀ k : Int, 0 ≤ k → Bd N 1 1 (tMk N.bit k) := fun k hk => bd_leaf ⟨hN.bit, hk⟩ trivial (Nat.le_refl _) (Nat.le_refl _)
  have bt : Bd N 1 1 (tTh N.bit) := bd_leaf hN.bit trivial (Nat.le_refl _) (Nat.le_refl _)
  have nt : Nf N (tTh N.bit) := nf_leaf (fun _ => nofun)
  have hx := ev_nf (bb 1 (by decide)) (nb 1)
  have hy := ev_nf (bb 0 (by decide)) (nb 0)
  have ne : ¬ N.flip = N.two := fun e => hN.two_flip e.symm
  -- the eater's step
  have s3 : Ev N 6 11 (tMk N.bit (1 - (b : Int))) 1 (eT N.bit 0 (.bin .fn (tTh N.bit) (tTh N.bit)) (tMk N.bit 1) (tMk N.bit 0) (tMk N.bit b)) := by
    have nS : Nf N (T.bin .fn (tTh N.bit) (tTh N.bit)) := nf_fn nt nt
    have bS : Bd N 2 3 (T.bin .fn (tTh N.bit) (tTh N.bit)) := Bd.bin .fn bt bt
    refine Ev.into ((bd_eT (d := 1) hN (.inr rfl) (by decide) bS ((bb 1 (by decide)).up (by omega) (Nat.le_refl _)) ((bb 0 (by decide)).up (by omega) (Nat.le_refl _)) ((bb b (Int.natCast_nonneg _)).up (by omega) (Nat.le_refl _))).up (by omega) (by omega)) (fun n => ?_) fun p hp => ?_
    · have := nf_own n
      rw [gone_bit hN hb] at this
      cases this
    · rcases eT_steps nS (nb b) hp with e | ⟨q, hq, _⟩ | ⟨q, hq, _⟩
      · rw [gone_bit hN hb] at e
        simp only [Option.some.injEq, Prod.mk.injEq] at e
        rw [← e.2]
        rcases hb with e | e <;> subst e
        · exact ⟨0, by omega, hx.up (Nat.le_refl _) (by omega) (by omega)⟩
        · exact ⟨0, by omega, hy.up (Nat.le_refl _) (by omega) (by omega)⟩
      · exact absurd hq (nb 1).no
      · exact absurd hq (nb 0).no
  -- the body
  have nB : Nf N (eT N.bit 0 (.bin .fn (tTh N.bit) (tTh N.bit)) (tMk N.bit 1) (tMk N.bit 0) (.var 0)) := by
    refine nf_iff.mpr fun p hp => ?_
    rcases eT_steps (nf_fn nt nt) nf_var hp with e | ⟨q, hq, _⟩ | ⟨q, hq, _⟩
    · simp [goneT, eatT, T.open] at e
    · exact (nb 1).no hq
    · exact (nb 0).no hq
  have bF : Bd N 7 13 (flipT N) := by
    refine (Bd.bin (N := N) .fn (bt.up (d' := 6) (by omega) (Nat.le_refl _)) (bd_eT (d := 1) (c := 1) (h := 0) hN (.inr rfl) (by decide) (Bd.bin .fn bt bt) ((bb 1 (by decide)).up (by omega) (Nat.le_refl _)) ((bb 0 (by decide)).up (by omega) (Nat.le_refl _)) (bd_var (by decide) (by omega) (by omega)))).up (by omega) (by omega)
  have nF : Nf N (flipT N) := nf_fn nt nB
  have s2 : Ev N 8 15 (tMk N.bit (1 - (b : Int))) 2 (.bin .ap (flipT N) (tMk N.bit b)) := by
    refine Ev.into ((Bd.bin .ap bF ((bb b (Int.natCast_nonneg _)).up (by omega) (Nat.le_refl _))).up (by omega) (by omega)) (fun n => ?_) fun p hp => ?_
    · have := nf_own n
      simp [flipT, goneT] at this
    · rcases bin_steps hp with e | ⟨q, hq, _⟩ | ⟨q, hq, _⟩
      · simp only [flipT, goneT, T.give, bd_fn, bd_ap, Int.add_zero, if_true, T.raise, Option.some.injEq, Prod.mk.injEq] at e
        rw [← e.2]
        exact ⟨1, by omega, s3.up (Nat.le_refl _) (by omega) (by omega)⟩
      · exact absurd hq nF.no
      · exact absurd hq (nb b).no
  refine Ev.into ((Bd.bin .ap (bd_leaf (N := N) (d := 1) (m := 1) (l := .name N.flip) (hN.ok _ (by simp [Nm.all])) trivial (Nat.le_refl _) (Nat.le_refl _)) (bb b (Int.natCast_nonneg _))).up (by omega) (by omega)) (fun n => ?_) fun p hp => ?_
  · have := nf_own (nf_bin.mp n).2.1
    simp [goneT, ne] at this
  · rcases bin_steps hp with e | ⟨q, hq, e1⟩ | ⟨q, hq, _⟩
    · simp [goneT, eatT, T.open] at e
    · simp only [stepsT] at hq
      have e := (mem_own.mp hq).2
      simp only [goneT, ne, if_false, if_true, Option.some.injEq, Prod.mk.injEq] at e
      rw [e1, ← e.2]
      exact ⟨2, by omega, s2⟩
    · exact absurd hq (nb b).no
end
end Kp
set_option maxRecDepth 100000
set_option maxHeartbeats 2000000
/-! A2: is_term -/
namespace Kp
open PySem PySem.Spec L2
section
variable {P : Program} {w : World} {K : PySem.W.Frag} {mg : Str → Option Value} {base : Heap}
def formOk (d : Nat) (l : Str) (x : D) : Prop := (l = "n" ∧ ∃ n : Int, 0 ≤ n ∧ x = .int n) ∨ (l = "h" ∧ ∃ n : Int, 0 ≤ n ∧ n ≤ 5 ∧ x = .int n) ∨ (l = "w" ∧ ∃ s, okName s ∧ x = .str s) ∨ (l = "t" ∧ ∃ t : T, t.ok ∧ t.dp ≤ d ∧ x = toD t)
abbrev sp_is_term (d : Nat) : SpecD := spF (fun t : T => [toD t]) (fun t => t.ok ∧ t.dp ≤ d) fun _ => .bl true
abbrev sp_has_form (d : Nat) : SpecD := spF (fun a : Str × D => [.str a.1, a.2]) (fun a => formOk d a.1 a.2) fun _ => .bl true
theorem sc_has_form : FnScope ["letter", "thing"] ["letter", "thing"] d_has_form.scope := ⟨rfl, rfl, rfl, by decide +kernel, rfl, by decide +kernel, by decide +kernel⟩
theorem F_has_form_of (Z : Tx P w K mg base) {k d : Nat} (h : Fn P w K mg base (GC K) "is_term" (k + 1) [] (sp_is_term d)) : Fn P w K mg base (GC K) "has_form" (k + 2) [] (sp_has_form d) := by
  refine fn_p0 Z (k := (k+1)) 3 rfl rfl rfl rfl sc_has_form (by decide) (fun _ _ _ _ _ _ us hl => match us, hl with | [_, _], _ => rfl) (fun _ => rfl) (fun f cdv A outer s H E hr => by
    have sc := sc_has_form
    exact (dss_cons (ds_if (dt_cmp op_eq d2_eqS (de_var 0) de_str (nomark _)) (dss_one (ds_ret (de_call (F_is_number Z) (hr.mono (by omega)) (da_cons (de_var 1) da_nil)))) dss_nil) (dss_cons (ds_if (dt_cmp op_eq d2_eqS (de_var 0) de_str (nomark _)) (dss_one (ds_ret (de_call (F_is_whole Z) (hr.mono (by omega)) (da_cons (de_var 1) (da_cons de_int (da_cons (de_gi rfl Z.i_MOST_KIND) da_nil)))))) dss_nil) (dss_cons (ds_if (dt_cmp op_eq d2_eqS (de_var 0) de_str (nomark _)) (dss_one (ds_ret (de_call (F_is_name Z) (hr.mono (by omega)) (da_cons (de_var 1) da_nil)))) dss_nil) (dss_one (ds_ret (de_call (h) (hr.mono (by omega)) (da_cons (de_var 1) da_nil)))))))) ?hg
  rintro ⟨l, x⟩ π hp
  rcases hp with ⟨e, n, h1, e2⟩ | ⟨e, n, h1, h2, e2⟩ | ⟨e, s, h1, e2⟩ | ⟨e, t, h1, h2, e2⟩ <;> simp at e e2 <;> subst e e2
  · simp [spF, and_assoc, h1]
  · simp [spF, h1, h2, and_assoc]
  · simp [spF, h1]
  · simp [spF, h1, h2]
theorem sc_is_term : FnScope ["thing", "form", "letter", "part"] ["thing"] d_is_term.scope := ⟨rfl, rfl, rfl, by decide +kernel, rfl, by decide +kernel, by decide +kernel⟩
theorem F_is_term_of (Z : Tx P w K mg base) {k d : Nat} (h : Fn P w K mg base (GC K) "has_form" k [] (sp_has_form d)) : Fn P w K mg base (GC K) "is_term" (k + 1) [] (sp_is_term (d + 1)) := by
  refine fn_p0 Z (k := k) 4 rfl rfl rfl rfl sc_is_term (by decide) (fun _ _ _ _ _ _ us hl => match us, hl with | [_], _ => rfl) (fun _ => rfl) (fun f cdv A outer s H E hr => by
    have sc := sc_is_term
    obtain ⟨_, _, TF⟩ := Z.tabF
    exact (dss_cons (ds_if (DW.dt (dw_or (dt_not (dt_val (de_callB call_isi dc_isi rfl Z.f_isinstance rfl (da_cons (de_var 0) (da_cons (de_ty .tuple rfl Z.f_tuple rfl) da_nil))))) (dw_or (dt_cmp op_eq d2_eqS (de_callB call_len dc_len rfl Z.f_len rfl (da_cons (de_var 0) da_nil)) de_int (nomark _)) (dw_or (dt_not (dt_val (de_callB call_isi dc_isi rfl Z.f_isinstance rfl (da_cons (de_ix ix_seq d2_ix (de_var 0) de_int) (da_cons (de_ty .str rfl Z.f_str rfl) da_nil))))) (dw_or1 (dt_cmp (op_notIn_kd TF) (d2_notInTab Z.formsIn) (de_ix ix_seq d2_ix (de_var 0) de_int) (de_ga rfl Z.g_FORMS) rfl)))))) (dss_one (ds_ret de_bl)) dss_nil) (dss_cons (ds_set (i := 1) sc.nd (de_ix ix_kdict (ix_forms Z) (de_ga rfl Z.g_FORMS) (de_ix ix_seq d2_ix (de_var 0) de_int))) (dss_cons (ds_if (dt_cmp op_ne d2_neS (de_callB call_len dc_len rfl Z.f_len rfl (da_cons (de_var 0) da_nil)) (de_bin op_add d2_addI (de_callB call_len dc_len rfl Z.f_len rfl (da_cons (de_var 1) da_nil)) de_int) (nomark _)) (dss_one (ds_ret de_bl)) dss_nil) (dss_one (ds_ret (de_callB (cr_all rfl) dc_all rfl Z.f_all rfl (da_cons (DL.de (dl_lc rfl sc.nd (di_zip rfl Z.f_zip (da_cons (de_var 1) (da_cons (de_slice (de_var 0) (do_some de_int) do_none) da_nil))) (blkOk_by (N := ["thing", "form", "letter", "part"]) (sc := d_is_term.scope) (own := [("letter", 2), ("part", 3)]) (by decide +kernel)) (by decide) (fun _ _ _ _ _ => (dg_tup rfl (dgs_cons (i := 2) sc.nd (dgs_cons (i := 3) sc.nd dgs_nil)))) (fun _ _ _ _ _ => (de_call (h) (hr.mono (by omega)) (da_cons (de_var 2) (da_cons (de_var 3) da_nil)))))) da_nil)))))))) ?hg
  rintro t π ⟨h1, h2⟩
  cases t with
  | var n => simp at h1; simp [and_assoc, lcD, spF, formOk, h1]
  | leaf l =>
    cases l with
    | kind n => simp at h1; simp [and_assoc, lcD, spF, formOk, h1]
    | name n => simp at h1; simp [and_assoc, lcD, spF, formOk, h1]
    | thing n => simp at h1; simp [and_assoc, lcD, spF, formOk, h1]
    | maker n m => simp at h1; simp [and_assoc, lcD, spF, formOk, h1]
    | eater n m => simp at h1; simp [and_assoc, lcD, spF, formOk, h1]
  | bin b x y =>
    simp at h1 h2
    obtain ⟨h3, h4⟩ := Nat.max_le.mp h2
    cases b <;> simp [and_assoc, lcD, spF, formOk, h1, h3, h4]
  | tri b x y z =>
    simp at h1 h2
    obtain ⟨h3, h4⟩ := Nat.max_le.mp h2
    obtain ⟨h4, h5⟩ := Nat.max_le.mp h4
    cases b <;> simp [and_assoc, lcD, spF, formOk, h1, h3, h4, h5]
theorem F_is_term (Z : Tx P w K mg base) : ∀ d : Nat, Fn P w K mg base (GC K) "is_term" (2 * d + 1) [] (sp_is_term d)
  | 0 => by
    refine fn_void Z 4 rfl rfl rfl rfl (ps := ["thing"]) (fun _ _ _ _ _ _ us hl => match us, hl with | [_], _ => rfl) ?_
    rintro ds π Q ⟨t, e, ⟨h1, h2⟩, q⟩
    have := t.dp_pos
    omega
  | d + 1 => F_is_term_of Z (k := 2 * d + 2) (F_has_form_of Z (k := 2 * d) (F_is_term Z d))
end
end Kp
set_option maxRecDepth 100000
set_option maxHeartbeats 4000000
/-! A15: rows that are asked -/
namespace Kp
open PySem PySem.Spec L2
def gdT (t : T) : Prop := t.ok ∧ t.dp ≤ 58
section
variable {P : Program} {w : World} {K : PySem.W.Frag} {mg : Str → Option Value} {base : Heap}
theorem sc_are_terms : FnScope ["thing", "most", "part"] ["thing", "most"] d_are_terms.scope := ⟨rfl, rfl, rfl, by decide +kernel, rfl, by decide +kernel, by decide +kernel⟩
theorem F_are_terms (Z : Tx P w K mg base) : Fn P w K mg base (GC K) "are_terms" 118 [] (spF (fun a : List T × Int => [.tup (a.1.map toD), .int a.2]) (fun a => (a.1.length : Int) ≤ a.2 ∧ a.1.length ≤ 1000 ∧ ∀ t ∈ a.1, gdT t) fun _ => .bl true) := by
  refine fn_p0 Z (k := 117) 17 rfl rfl rfl rfl sc_are_terms (by decide) (fun _ _ _ _ _ _ us hl => match us, hl with | [_, _], _ => rfl) (fun _ => rfl) (fun f cdv A outer s H E hr => by
    have sc := sc_are_terms
    exact (dss_one (ds_ret (de_and (de_callB call_isi dc_isi rfl Z.f_isinstance rfl (da_cons (de_var 0) (da_cons (de_ty .tuple rfl Z.f_tuple rfl) da_nil))) (de_and (de_cmp op_le d2_le (de_callB call_len dc_len rfl Z.f_len rfl (da_cons (de_var 0) da_nil)) (de_var 1) (nomark _)) (de_one (de_callB (cr_all rfl) dc_all rfl Z.f_all rfl (da_cons (DL.de (dl_lc rfl sc.nd (di_tup (de_var 0)) (blkOk_by (N := ["thing", "most", "part"]) (sc := d_are_terms.scope) (own := [("part", 2)]) (by decide +kernel)) (by decide) (fun _ _ _ _ _ => (dg_name (i := 2) sc.nd)) (fun _ _ _ _ _ => (de_call (F_is_term Z 58) (hr.mono (by omega)) (da_cons (de_var 2) da_nil))))) da_nil)))))))) ?hg
  rintro ⟨ts, m⟩ π ⟨h1, h2, h3⟩
  simp only at h1 h2 h3
  simp [and_assoc, h1]
  refine ⟨by omega, lcD_map (h := fun _ => .bl true) (fun t ht Q q => ?_) (by simpa using (by omega : ts.length ≤ 1000000)) (kAll_true ⟨rfl, rfl⟩)⟩
  have := h3 t ht
  simp [spF, this.1, this.2, q]
theorem sc_is_thing_row : FnScope ["thing", "maker"] ["thing"] d_is_thing_row.scope := ⟨rfl, rfl, rfl, by decide +kernel, rfl, by decide +kernel, by decide +kernel⟩
theorem F_is_thing_row (Z : Tx P w K mg base) : Fn P w K mg base (GC K) "is_thing_row" 119 [] (spF (fun a : Str × List T × List (List T) => [thD a.1 a.2.1 a.2.2]) (fun a => okName a.1 ∧ (a.2.1.length ≤ 3 ∧ ∀ t ∈ a.2.1, gdT t) ∧ a.2.2.length ≤ 5 ∧ ∀ m ∈ a.2.2, m.length ≤ 4 ∧ ∀ t ∈ m, gdT t) fun _ => .bl true) := by
  refine fn_p0 Z (k := 118) 18 rfl rfl rfl rfl sc_is_thing_row (by decide) (fun _ _ _ _ _ _ us hl => match us, hl with | [_], _ => rfl) (fun _ => rfl) (fun f cdv A outer s H E hr => by
    have sc := sc_is_thing_row
    exact (dss_cons (ds_if (DW.dt (dw_or (dt_cmp op_ne d2_neS (de_callB call_len dc_len rfl Z.f_len rfl (da_cons (de_var 0) da_nil)) de_int (nomark _)) (dw_or (dt_not (dt_val (de_call (F_is_name Z) (hr.mono (by omega)) (da_cons (de_ix ix_seq d2_ix (de_var 0) de_int) da_nil)))) (dw_or1 (dt_not (dt_val (de_call (F_is_whole Z) (hr.mono (by omega)) (da_cons (de_ix ix_seq d2_ix (de_var 0) de_int) (da_cons de_int (da_cons (de_gi rfl Z.i_MOST_KIND) da_nil)))))))))) (dss_one (ds_ret de_bl)) dss_nil) (dss_cons (ds_if (DW.dt (dw_or (dt_not (dt_val (de_call (F_are_terms Z) (hr.mono (by omega)) (da_cons (de_ix ix_seq d2_ix (de_var 0) de_int) (da_cons (de_gi rfl Z.i_MOST_BOUNDS) da_nil))))) (dw_or (dt_not (dt_val (de_callB call_isi dc_isi rfl Z.f_isinstance rfl (da_cons (de_ix ix_seq d2_ix (de_var 0) de_int) (da_cons (de_ty .tuple rfl Z.f_tuple rfl) da_nil))))) (dw_or1 (dt_cmp op_gt d2_gt (de_callB call_len dc_len rfl Z.f_len rfl (da_cons (de_ix ix_seq d2_ix (de_var 0) de_int) da_nil)) (de_gi rfl Z.i_MOST_MAKERS) (nomark _)))))) (dss_one (ds_ret de_bl)) dss_nil) (dss_one (ds_ret (de_callB (cr_all rfl) dc_all rfl Z.f_all rfl (da_cons (DL.de (dl_lc rfl sc.nd (di_tup (de_ix ix_seq d2_ix (de_var 0) de_int)) (blkOk_by (N := ["thing", "maker"]) (sc := d_is_thing_row.scope) (own := [("maker", 1)]) (by decide +kernel)) (by decide) (fun _ _ _ _ _ => (dg_name (i := 1) sc.nd)) (fun _ _ _ _ _ => (de_call (F_are_terms Z) (hr.mono (by omega)) (da_cons (de_var 1) (da_cons (de_gi rfl Z.i_MOST_ARGS) da_nil)))))) da_nil))))))) ?hg
  rintro ⟨s, bs, ms⟩ π ⟨h1, ⟨h2, h3⟩, h4, h5⟩
  simp only at h1 h2 h3 h4 h5
  walk_at "kpe"
  refine x_f1 s rfl h1 ?_
  walk_at "kpe"
  refine x_f1 (0, 0, 5) rfl ⟨by decide, by decide⟩ ?_
  walk_at "kpe"
  refine x_f1 (bs, 3) rfl ⟨by simp only; omega, by simp only; omega, h3⟩ ?_
  walk_at "kpe"
  refine x_len rfl (by simp; omega) ?_
  walk_at "kpe"
  refine x_if_f (by simp; omega) ?_
  walk_at "kpe"
  refine lcD_map (h := fun _ => .bl true) (fun m hm Q q => ?_) (by simp; omega) ?_
  · walk_at "kpe"
    obtain ⟨g1, g2⟩ := h5 m hm
    refine x_f1 (m, 4) rfl ⟨by simp only; omega, by simp only; omega, g2⟩ ?_
    exact q
  · walk_at "kpe"
    exact kAll_true ⟨rfl, rfl⟩
theorem sc_is_mean_row : FnScope ["thing"] ["thing"] d_is_mean_row.scope := ⟨rfl, rfl, rfl, by decide +kernel, rfl, by decide +kernel, by decide +kernel⟩
theorem F_is_mean_row (Z : Tx P w K mg base) : Fn P w K mg base (GC K) "is_mean_row" 119 [] (spF (fun a : Str × T × T => [meD a.1 a.2.1 a.2.2]) (fun a => okName a.1 ∧ gdT a.2.1 ∧ gdT a.2.2) fun _ => .bl true) := by
  refine fn_p0 Z (k := 118) 19 rfl rfl rfl rfl sc_is_mean_row (by decide) (fun _ _ _ _ _ _ us hl => match us, hl with | [_], _ => rfl) (fun _ => rfl) (fun f cdv A outer s H E hr => by
    have sc := sc_is_mean_row
    exact (dss_one (ds_ret (de_and (de_cmp op_eq d2_eqS (de_callB call_len dc_len rfl Z.f_len rfl (da_cons (de_var 0) da_nil)) de_int (nomark _)) (de_and (de_call (F_is_name Z) (hr.mono (by omega)) (da_cons (de_ix ix_seq d2_ix (de_var 0) de_int) da_nil)) (de_one (de_call (F_are_terms Z) (hr.mono (by omega)) (da_cons (de_slice (de_var 0) (do_some de_int) do_none) (da_cons de_int da_nil))))))))) ?hg
  rintro ⟨s, x, y⟩ π ⟨h1, h2, h3⟩
  simp only at h1 h2 h3
  simp [and_assoc, meD, spF, h1]
  refine ⟨[x, y], by simp, by simp, by simp, ?_⟩
  intro t ht
  simp at ht
  rcases ht with e | e <;> subst e <;> assumption
theorem sc_is_hold_row : FnScope ["thing"] ["thing"] d_is_hold_row.scope := ⟨rfl, rfl, rfl, by decide +kernel, rfl, by decide +kernel, by decide +kernel⟩
theorem F_is_hold_row (Z : Tx P w K mg base) : Fn P w K mg base (GC K) "is_hold_row" 119 [] (spF (fun a : Str × T => [hoD a.1 a.2]) (fun a => okName a.1 ∧ gdT a.2) fun _ => .bl true) := by
  refine fn_p0 Z (k := 118) 20 rfl rfl rfl rfl sc_is_hold_row (by decide) (fun _ _ _ _ _ _ us hl => match us, hl with | [_], _ => rfl) (fun _ => rfl) (fun f cdv A outer s H E hr => by
    have sc := sc_is_hold_row
    exact (dss_one (ds_ret (de_and (de_cmp op_eq d2_eqS (de_callB call_len dc_len rfl Z.f_len rfl (da_cons (de_var 0) da_nil)) de_int (nomark _)) (de_and (de_call (F_is_name Z) (hr.mono (by omega)) (da_cons (de_ix ix_seq d2_ix (de_var 0) de_int) da_nil)) (de_one (de_call (F_is_term Z 58) (hr.mono (by omega)) (da_cons (de_ix ix_seq d2_ix (de_var 0) de_int) da_nil)))))))) ?hg
  rintro ⟨s, x⟩ π ⟨h1, h2, h3⟩
  simp only at h1 h2 h3
  simp [and_assoc, hoD, spF, h1, h2, h3]
end
end Kp
set_option maxRecDepth 100000
set_option maxHeartbeats 4000000
/-! A16: is_row -/
namespace Kp
open PySem PySem.Spec L2
theorem rl_thing (K : PySem.W.Frag) : (rowsD K).lookup ("thing" : Str) = some (D.adr (He.ga K "is_thing_row")) := by kernel_rfl
theorem rl_mean (K : PySem.W.Frag) : (rowsD K).lookup ("mean" : Str) = some (D.adr (He.ga K "is_mean_row")) := by kernel_rfl
theorem rl_hold (K : PySem.W.Frag) : (rowsD K).lookup ("hold" : Str) = some (D.adr (He.ga K "is_hold_row")) := by kernel_rfl
/-- a row that passes: its name, the data -/
inductive RowOk : Str → D → Prop
  | thing {s : Str} {bs : List T} {ms : List (List T)} : okName s → (bs.length ≤ 3 ∧ ∀ t ∈ bs, gdT t) → (ms.length ≤ 5 ∧ ∀ m ∈ ms, m.length ≤ 4 ∧ ∀ t ∈ m, gdT t) → RowOk s (thD s bs ms)
  | mean {s : Str} {x y : T} : okName s → gdT x → gdT y → RowOk s (meD s x y)
  | hold {s : Str} {x : T} : okName s → gdT x → RowOk s (hoD s x)
section
variable {P : Program} {w : World} {K : PySem.W.Frag} {mg : Str → Option Value} {base : Heap}
theorem sc_is_row : FnScope ["thing", "look"] ["thing"] d_is_row.scope := ⟨rfl, rfl, rfl, by decide +kernel, rfl, by decide +kernel, by decide +kernel⟩
theorem F_is_row (Z : Tx P w K mg base) : Fn P w K mg base (GC K) "is_row" 120 [] (spF (fun a : Str × D => [a.2]) (fun a => RowOk a.1 a.2) fun _ => .bl true) := by
  have g1 := Z.glo (x := "is_thing_row") 18 rfl
  have g2 := Z.glo (x := "is_mean_row") 19 rfl
  have g3 := Z.glo (x := "is_hold_row") 20 rfl
  refine fn_p0 Z (k := 119) 21 rfl rfl rfl rfl sc_is_row (by decide) (fun _ _ _ _ _ _ us hl => match us, hl with | [_], _ => rfl) (fun _ => rfl) (fun f cdv A outer s H E hr => by
    have sc := sc_is_row
    obtain ⟨_, _, TR⟩ := Z.tabR
    exact (dss_cons (ds_if (DW.dt (dw_or (dt_not (dt_val (de_callB call_isi dc_isi rfl Z.f_isinstance rfl (da_cons (de_var 0) (da_cons (de_ty .tuple rfl Z.f_tuple rfl) da_nil))))) (dw_or (dt_cmp op_eq d2_eqS (de_callB call_len dc_len rfl Z.f_len rfl (da_cons (de_var 0) da_nil)) de_int (nomark _)) (dw_or (dt_not (dt_val (de_callB call_isi dc_isi rfl Z.f_isinstance rfl (da_cons (de_ix ix_seq d2_ix (de_var 0) de_int) (da_cons (de_ty .str rfl Z.f_str rfl) da_nil))))) (dw_or1 (dt_cmp (op_notIn_kd TR) (d2_notInTab Z.rowsIn) (de_ix ix_seq d2_ix (de_var 0) de_int) (de_ga rfl Z.g_ROWS) rfl)))))) (dss_one (ds_ret de_bl)) dss_nil) (dss_cons (ds_set (i := 1) sc.nd (de_ix ix_kdict (ix_rows Z) (de_ga rfl Z.g_ROWS) (de_ix ix_seq d2_ix (de_var 0) de_int))) (dss_one (ds_ret (de_callV 1 (K := K) rfl rfl rfl rfl rfl hr (da_cons (de_var 0) da_nil))))))) ?hg
  rintro ⟨s, r⟩ π h
  simp only at h
  cases h with
  | thing h1 h2 h3 =>
    rename_i bs ms
    walk_at "kpe"
    refine ⟨"thing", _, rfl, rfl, rl_thing K, ?_⟩
    walk_at "kpe"
    refine ⟨"thing", _, rfl, rfl, rl_thing K, ?_⟩
    walk_at "kpe"
    refine ⟨_, _, rfl, (F_is_thing_row Z).held g1, ?_⟩
    walk_at "kpe"
    refine x_f1 (s, bs, ms) rfl ⟨h1, h2, h3⟩ ?_
    walk_at "kpe"
    exact ⟨rfl, rfl⟩
  | mean h1 h2 h3 =>
    rename_i x y
    walk_at "kpe"
    refine ⟨"mean", _, rfl, rfl, rl_mean K, ?_⟩
    walk_at "kpe"
    refine ⟨"mean", _, rfl, rfl, rl_mean K, ?_⟩
    walk_at "kpe"
    refine ⟨_, _, rfl, (F_is_mean_row Z).held g2, ?_⟩
    walk_at "kpe"
    refine x_f1 (s, x, y) rfl ⟨h1, h2, h3⟩ ?_
    walk_at "kpe"
    exact ⟨rfl, rfl⟩
  | hold h1 h2 =>
    rename_i x
    walk_at "kpe"
    refine ⟨"hold", _, rfl, rfl, rl_hold K, ?_⟩
    walk_at "kpe"
    refine ⟨"hold", _, rfl, rfl, rl_hold K, ?_⟩
    walk_at "kpe"
    refine ⟨_, _, rfl, (F_is_hold_row Z).held g3, ?_⟩
    walk_at "kpe"
    refine x_f1 (s, x) rfl ⟨h1, h2⟩ ?_
    walk_at "kpe"
    exact ⟨rfl, rfl⟩
end
end Kp
set_option maxRecDepth 100000
set_option maxHeartbeats 4000000
/-! A17: need_rows -/
namespace Kp
open PySem PySem.Spec L2
theorem RowOk.tup {s : Str} {r : D} (h : RowOk s r) : okName s ∧ ∃ wd ds, r = .tup (.str wd :: .str s :: ds) := by
  cases h with
  | thing h1 h2 h3 => exact ⟨h1, _, _, rfl⟩
  | mean h1 h2 h3 => exact ⟨h1, _, _, rfl⟩
  | hold h1 h2 => exact ⟨h1, _, _, rfl⟩
section
variable {K : PySem.W.Frag} {C : Addr} {F : Fr} {O : List Addr} {H : Hp} {σ : St} {ρ : DEnv} {π : Pu} {p : Addr} {o : HO}
/-- a new object of any kind, hidden -/
theorem RS.hideN (R : RS K C F O H σ ρ π) (hp : H p = none) : Ex (hide O H) (hide (p :: O) (upd H p o)) ∧ RS K C F (p :: O) (upd H p o) σ ρ π := by
  have np : p ∉ O := R.fresh hp
  have ex : Ex (hide O H) (hide (p :: O) (upd H p o)) := fun b u hb => by
    obtain ⟨g1, g2⟩ := hide_some hb
    have ne : b ≠ p := ne_of_none g2 hp
    rw [hide_out (by simp only [List.mem_cons, not_or]; exact ⟨ne, g1⟩), upd_ne ne]; exact g2
  refine ⟨ex, ?_⟩
  constructor
  · intro b u hb hn
    have := R.pres b u hb hn
    rw [upd_ne (ne_of_none this hp)]; exact this
  · intro b hb
    by_cases e : b = p
    · exact ⟨o, by rw [e]; exact upd_same⟩
    · rw [upd_ne e]
      rcases List.mem_cons.mp hb with e' | hb
      · exact absurd e' e
      · exact R.dom b hb
  · exact fun b hb => List.mem_cons_of_mem _ (R.sub b hb)
  · intro a l e
    obtain ⟨h1, h2, h3⟩ := R.pu a l e
    exact ⟨List.mem_cons_of_mem _ h1, by rw [upd_ne (ne_of_none h2 hp)]; exact h2, h3⟩
  · exact R.pu0
  · intro i d h
    obtain ⟨v, h1, h2⟩ := R.sl i d h
    exact ⟨v, h1, h2.mono ex⟩
  · intro i ds h
    obtain ⟨q, vs, h1, h2, h3, h4, h5, h6⟩ := R.ow i ds h
    exact ⟨q, vs, h1, List.mem_cons_of_mem _ h2, h3, by rw [upd_ne (ne_of_none h4 hp)]; exact h4, h5.mono ex, h6⟩
  · exact R.dis
  · exact R.len
theorem RS.stp0 {H' : Hp} {O' : List Addr} {σ' : St} {ρ' : DEnv} {π' : Pu} {dm : Dm O H} (R : RS K C ⟨H, O, puA π, dm⟩ O' H' σ' ρ' π') : Stp π (fixP π π') H H' := by
  cases π with
  | none => exact ⟨fun b o hb _ => R.pres b o hb (fun z => nomatch z), (fun a l e => nomatch e), fun _ => rfl⟩
  | some p =>
    obtain ⟨a, l⟩ := p
    refine ⟨fun b o hb hn => R.pres b o hb fun z => hn a l rfl (Option.some.inj z).symm, fun a' l' e => ?_, fun e => nomatch e⟩
    cases e
    obtain ⟨l2, e2⟩ := R.pu0 a rfl
    exact ⟨l2, e2, (R.pu a l2 e2).2.1⟩
/-- a hidden object is changed; no slot owns a list -/
theorem RS.mutN (R : RS K C F O H σ ρ π) (hO : p ∈ O) (h0 : F.H0 p = none) (hpu : ∀ a l, π = some (a, l) → p ≠ a) (hs : ∀ (i : Nat) (ds : List D), ρ[i]? ≠ some (Sl.ow ds)) : Ex (hide O H) (hide O (upd H p o)) ∧ RS K C F O (upd H p o) σ ρ π := by
  have ex : Ex (hide O H) (hide O (upd H p o)) := fun b u hb => by
    obtain ⟨g1, g2⟩ := hide_some hb
    have ne : b ≠ p := fun e => g1 (e ▸ hO)
    rw [hide_out g1, upd_ne ne]; exact g2
  refine ⟨ex, ?_⟩
  constructor
  · intro b u hb hn
    have ne : b ≠ p := fun e => by rw [e, h0] at hb; cases hb
    rw [upd_ne ne]; exact R.pres b u hb hn
  · intro b hb
    by_cases e : b = p
    · exact ⟨o, by rw [e]; exact upd_same⟩
    · rw [upd_ne e]; exact R.dom b hb
  · exact R.sub
  · intro a l e
    obtain ⟨h1, h2, h3⟩ := R.pu a l e
    exact ⟨h1, by rw [upd_ne (Ne.symm (hpu a l e))]; exact h2, h3⟩
  · exact R.pu0
  · intro i d h
    obtain ⟨v, h1, h2⟩ := R.sl i d h
    exact ⟨v, h1, h2.mono ex⟩
  · intro i ds h
    exact absurd h (hs i ds)
  · intro i j q ds es _ h _ _
    exact absurd h (hs i ds)
  · exact R.len
end
theorem ptD {X : Cx} {C : Addr} {e : Expr} {f : DTt} (F : Fr) (h : DT X C e f) : PT X e (tT X.K C F f) := h.pt F
theorem peD {X : Cx} {C : Addr} {e : Expr} {f : DTe} (F : Fr) (h : DE X C e f) : PE X e (tE X.K C F f) := h.pe F
theorem piD {X : Cx} {C : Addr} {tg e : Expr} {f : DTa} (F : Fr) (h : DI X C tg e f) : PI X tg e (tI X.K C F f) := h.pi F
theorem psD {X : Cx} {C : Addr} {st : Stmt} {g : DTs} (F : Fr) (h : DS X C st g) : PS X st (tSt X.K C F g) := h.ps F
theorem not_in_take : ∀ {l : List Str} {i : Nat} (h : i < l.length), l.Nodup → l[i] ∉ l.take i
  | a :: l, 0, h, n => by simp
  | a :: l, i + 1, h, n => by
    simp only [List.nodup_cons] at n
    have hl : i < l.length := by simpa using h
    simp only [List.getElem_cons_succ, List.take_succ_cons, List.mem_cons, not_or]
    exact ⟨fun e => n.1 (e ▸ List.getElem_mem hl), not_in_take hl n.2⟩
theorem valV_none {kvs : List (Key × V)} {ns : List Str} {s : Str} (e : kvs.map (·.1) = ns.map Sum.inr) (h : s ∉ ns) : valV kvs (.inr s) = none := by
  unfold valV
  rw [Option.map_eq_none_iff, List.find?_eq_none]
  intro kv hk
  have : kv.1 ∈ kvs.map (·.1) := List.mem_map.mpr ⟨kv, hk, rfl⟩
  rw [e] at this
  obtain ⟨n, hn, e2⟩ := List.mem_map.mp this
  intro z
  have z' := of_decide_eq_true z
  rw [← e2] at z'
  cases z'
  exact h hn
theorem putK_new {kvs : List (Key × V)} {ns : List Str} {s : Str} {v : V} (e : kvs.map (·.1) = ns.map Sum.inr) (h : s ∉ ns) : (putK kvs (.inr s) v).map (·.1) = (ns ++ [s]).map Sum.inr := by
  have hn : (kvs.any fun kv => decide (kv.1 = Sum.inr s)) = false := by
    rw [List.any_eq_false]
    intro kv hk
    have : kv.1 ∈ kvs.map (·.1) := List.mem_map.mpr ⟨kv, hk, rfl⟩
    rw [e] at this
    obtain ⟨n, hn, e2⟩ := List.mem_map.mp this
    intro z
    have z' := of_decide_eq_true z
    rw [← e2] at z'
    cases z'
    exact h hn
  unfold putK
  rw [hn]
  simp [e]
section
variable {P : Program} {w : World} {K : PySem.W.Frag} {mg : Str → Option Value} {base : Heap}
theorem sc_need_rows : FnScope ["rows", "seen", "row"] ["rows"] d_need_rows.scope := ⟨rfl, rfl, rfl, by decide +kernel, rfl, by decide +kernel, by decide +kernel⟩
theorem F_need_rows (Z : Tx P w K mg base) : Fn P w K mg base (GC K) "need_rows" 121 [] (spF (fun a : List (Str × D) => [.lst (a.map (fun q : Str × D => q.2))]) (fun a => (∀ q ∈ a, RowOk q.1 q.2) ∧ (a.map (fun q : Str × D => q.1)).Nodup ∧ a.length ≤ 24) fun _ => .non) where
  ex := by
    obtain ⟨fd, F⟩ := Z.fnD 29 _ rfl
    have F : FunD K d_need_rows.name d_need_rows.qual d_need_rows.params d_need_rows.body d_need_rows.scope [] (d_need_rows.kws K) (He.ga K "need_rows") fd := F
    refine ⟨_, fd, ["rows"], [], [], F.ok sc_need_rows (fun vs H Q E ⟨O, π, ds, dm, pa, r, a, e, _⟩ => by rw [r.length, e]; rfl) fun cdv A outer s H vs Q E hr ⟨O, π, ds, dm, pa, r, a, e, ⟨hp1, hp2, hp3⟩, h⟩ => ?_, Z.glo 29 rfl, F.kp, F.bindsN (fun _ _ _ _ _ _ us hl => match us, hl with | [_], _ => rfl), .nil, fun _ => .nil⟩
    subst e
    have sc := sc_need_rows
    have hr : Room 120 _ := hr
    refine ⟨_, PSs.nox (pss_cons (ps_if (ptD ⟨H, O, puA π, dm⟩ (DW.dt (dw_or (dt_not (dt_val (de_isi2 (s := .list) (t := .tuple) rfl Z.f_isinstance rfl rfl Z.f_list rfl rfl Z.f_tuple rfl (de_var 0)))) (dw_or1 (dt_cmp op_gt d2_gt (de_callB call_len dc_len rfl Z.f_len rfl (da_cons (de_var 0) da_nil)) (de_gi rfl Z.i_MOST_ROWS) (nomark _)))))) (pss_one ps_never) pss_nil) (pss_cons (ps_set (i := 1) sc.nd rfl (.inl rfl) pe_dnewK) (pss_one (ps_for PassesOwn.never rfl (piD (C := GC K) ⟨H, O, puA π, dm⟩ (di_list (de_var 0))) (dg_name (i := 2) sc.nd).pg
      (pss_cons (ps_if (ptD ⟨H, O, puA π, dm⟩ (dt_not (dt_val (de_call (F_is_row Z) (hr.mono (by omega)) (da_cons (de_var 2) da_nil))))) (pss_one ps_never) pss_nil) (pss_cons (ps_if (pt_cmp (pc_din hr.units2 (peD (C := GC K) ⟨H, O, puA π, dm⟩ (de_ix ix_seq d2_ix (de_var 2) de_int)) (pe_var (i := 1) rfl (.inl rfl) (by decide) (by decide))) rfl) (pss_one ps_never) pss_nil)
        (pss_one (ps_dput hr.units2 (pe_var (i := 1) rfl (.inl rfl) (by decide) (by decide)) (peD (C := GC K) ⟨H, O, puA π, dm⟩ (de_ix ix_seq d2_ix (de_var 2) de_int)) pe_bl rfl)))))))), ?_⟩
    obtain ⟨v0, rfl, rv⟩ := r.one
    have R0 : RS K (GC K) ⟨H, O, puA π, dm⟩ O H [some v0, none, none] [.pu (.lst (a.map (fun q : Str × D => q.2))), .no, .no] π := rs_start (N := ["rows", "seen", "row"]) dm pa (.cons rv .nil) (by simp)
    refine ⟨_, _, _, R0, ?_⟩
    walk_at "kpe"
    refine ⟨rfl, ?_⟩
    walk_at "kpe"
    refine x_len rfl (by simp; omega) ?_
    walk_at "kpe"
    refine fun H1 s1 => ?_
    refine x_if_f (by simp; omega) ?_
    have R1 := R0.step s1
    refine fun p hp => ?_
    obtain ⟨ex2, R2'⟩ := R1.hideN (o := .dK []) hp
    have hpu : ∀ b l, π = some (b, l) → p ≠ b := fun b l e z => R1.fresh hp (z ▸ (R1.pu b l e).1)
    have h0p : H p = none := R0.back s1 hp
    have R2 : RS K (GC K) ⟨H, O, puA π, dm⟩ (p :: O) (upd H1 p (.dK [])) [some v0, some (.ref p), none] [.pu (.lst (a.map (fun q : Str × D => q.2))), .no, .no] π := R2'.wipe (Nat.le_refl _) fun j s h n => by
      match j, h with
      | 0, h => exact ⟨h, rfl⟩
      | 1, h => cases h; exact absurd rfl n
      | 2, h => cases h; exact absurd rfl n
    refine ⟨_, _, _, R2, ?_⟩
    walk_at "kpe"
    refine fun J H3 s3 wk => ?_
    have R3 := R2.step s3
    have hp3' : H3 p = some (.dK []) := s3.keep p _ upd_same fun b l e => hpu b l e
    refine ⟨fun i m σ' H' => m = a.length - i ∧ i ≤ a.length ∧ ∃ x kvs, σ' = [some v0, some (.ref p), x] ∧ RS K (GC K) ⟨H, O, puA π, dm⟩ (p :: O) H' σ' [.pu (.lst (a.map (fun q : Str × D => q.2))), .no, .no] π ∧ Ex (hide (p :: O) H3) (hide (p :: O) H') ∧ H' p = some (.dK kvs) ∧ kvs.map (·.1) = ((a.map (fun q : Str × D => q.1)).take i).map Sum.inr,
      ⟨a.length, rfl, Nat.zero_le _, none, [], rfl, R3, Ex.refl _, hp3', rfl⟩, ?_⟩
    rintro i m σ' H' ⟨rfl, hle, x, kvs, rfl, R4, ex4, hk, ek⟩
    by_cases hlt : i < a.length
    · refine .inr ⟨wk.goes i (p :: O) H' ex4 (by simpa using hlt), fun σ2 H2 => a.length - (i + 1) < a.length - i ∧ ∃ x kvs, σ2 = [some v0, some (.ref p), x] ∧ RS K (GC K) ⟨H, O, puA π, dm⟩ (p :: O) H2 σ2 [.pu (.lst (a.map (fun q : Str × D => q.2))), .no, .no] π ∧ Ex (hide (p :: O) H3) (hide (p :: O) H2) ∧ H2 p = some (.dK kvs) ∧ kvs.map (·.1) = ((a.map (fun q : Str × D => q.1)).take (i + 1)).map Sum.inr,
        fun σ2 H2 ⟨z1, z2⟩ => ⟨a.length - (i + 1), z1, rfl, hlt, z2⟩, fun y H5 yl => ?_⟩
      obtain ⟨ex5, d, hd, rd⟩ := wk.yields i (p :: O) H' y H5 R4.dom ex4 (by simpa using hlt) yl
      have hd' : (a[i]'hlt).2 = d := by simpa [hlt] using hd
      have hro := hp1 (a[i]'hlt) (List.getElem_mem hlt)
      rw [hd'] at hro
      obtain ⟨okn, wd, ds, rfl⟩ := hro.tup
      have R5 : RS K (GC K) ⟨H, O, puA π, dm⟩ (p :: O) H5 [some v0, some (.ref p), some y] [.pu (.lst (a.map (fun q : Str × D => q.2))), .no, .pu (.tup (.str wd :: .str (a[i]'hlt).1 :: ds))] π := (R4.grow ex5).set (i := 2) rd
      refine ⟨_, _, _, R5, ?_⟩
      walk_at "kpe"
      refine x_f1 ((a[i]'hlt).1, _) rfl hro ?_
      walk_at "kpe"
      refine fun H6 s6 => ?_
      refine x_if_f rfl ?_
      have R6 := R5.step s6
      have hk5 := ex5 _ _ hk
      have hk6 := s6.keep p _ hk5 fun b l e => hpu b l e
      refine ⟨_, _, _, R6, ?_⟩
      walk_at "kpe"
      refine x_ixT (atI_1 _ _ _) ?_
      refine fun v7 H7 s7 r7 => ?_
      have R7 := R6.step s7
      have hk7 := s7.keep p _ hk6 fun b l e => hpu b l e
      have nin : (a[i]'hlt).1 ∉ (a.map (fun q : Str × D => q.1)).take i := by
        have := not_in_take (l := a.map (fun q : Str × D => q.1)) (i := i) (by simpa using hlt) hp2
        rw [List.getElem_map] at this
        exact this
      rw [r7.str_iff]
      refine ⟨.ref p, rfl, p, _, rfl, DGet.k (k := .inr (a[i]'hlt).1) hk7, ?_⟩
      rw [valV_none ek nin]
      refine ⟨_, rfl, ?_⟩
      refine x_if_f rfl ?_
      refine ⟨.ref p, rfl, _, _, _, R7, ?_⟩
      walk_at "kpe"
      refine x_ixT (atI_1 _ _ _) ?_
      refine fun v8 H8 s8 r8 => ?_
      have R8 := R7.step s8
      have hk8 := s8.keep p _ hk7 fun b l e => hpu b l e
      rw [r8.str_iff]
      have lk : kvs.length ≤ 24 := by
        have := congrArg List.length ek
        simp at this; omega
      refine ⟨p, _, rfl, DPut.k (k := .inr (a[i]'hlt).1) hk8 (big_lt (by omega)), ?_⟩
      obtain ⟨ex9, R9⟩ := R8.mutN (o := .dK (putK kvs (.inr (a[i]'hlt).1) (.bl true))) List.mem_cons_self h0p hpu (fun j es => by
        match j with
        | 0 => simp
        | 1 => simp
        | 2 => simp
        | j + 3 => simp)
      refine ⟨by omega, some y, _, rfl, R9.wipe (Nat.le_refl _) (fun j s h n => by
        match j, h with
        | 0, h => exact ⟨h, rfl⟩
        | 1, h => cases h; exact absurd rfl n
        | 2, h => cases h; exact absurd rfl n), (((ex4.trans (hide_mono ex5)).trans (R5.hide_stp s6)).trans (R6.hide_stp s7)).trans ((R7.hide_stp s8).trans ex9), upd_same, ?_⟩
      rw [putK_new ek nin, List.take_add_one]
      simp [hlt]
    · have ei : i = a.length := by omega
      subst ei
      refine .inl ⟨by simpa using wk.stops (p :: O) H' ex4, ?_⟩
      refine h .non H' ?_ .non
      have := R4.stp0
      rwa [fixP_self] at this
  mono := spF_mono
end
end Kp
set_option maxRecDepth 100000
set_option maxHeartbeats 4000000
/-! A18: Ground(rows) -/
namespace Kp
open PySem PySem.Spec L2
/-- the frame without x -/
theorem RS.less {K : PySem.W.Frag} {C : Addr} {F F2 : Fr} {O : List Addr} {H : Hp} {σ : St} {ρ : DEnv} {π : Pu} (R : RS K C F O H σ ρ π) (h0 : ∀ b o, F2.H0 b = some o → F.H0 b = some o) (hO : ∀ b ∈ F2.O0, b ∈ F.O0) (hp : F2.pa = F.pa) : RS K C F2 O H σ ρ π where
  pres := fun b o h n => R.pres b o (h0 b o h) (hp ▸ n)
  dom := R.dom
  sub := fun b h => R.sub b (hO b h)
  pu := fun a l e => by
    obtain ⟨h1, h2, h3⟩ := R.pu a l e
    refine ⟨h1, h2, ?_⟩
    rcases h3 with h3 | h3
    · left
      cases q : F2.H0 a with
      | none => rfl
      | some o => rw [h0 a o q] at h3; cases h3
    · right; rw [hp]; exact h3
  pu0 := fun a h => R.pu0 a (hp ▸ h)
  sl := R.sl
  ow := fun i ds h => by
    obtain ⟨p, vs, h1, h2, h3, h4⟩ := R.ow i ds h
    refine ⟨p, vs, h1, h2, ?_, h4⟩
    cases q : F2.H0 p with
    | none => rfl
    | some o => rw [h0 p o q] at h3; cases h3
  dis := R.dis
  len := R.len
theorem pairs_rep {K : PySem.W.Frag} {C : Addr} {H H' : Hp} (e : Ex H H') : ∀ {a : List (Str × D)} {vs : List V}, Reps K C H vs (a.map fun q => .tup [.str q.1, q.2]) → ∃ (ps : List Addr) (kvs : List (Key × V)), vs = ps.map V.ref ∧ Paired (fun p kv => SqT K H' p [kV kv.1, kv.2]) ps kvs ∧ kvs.map (·.1) = (a.map (·.1)).map Sum.inr ∧ Reps K C H (kvs.map (·.2)) (a.map (·.2))
  | [], vs, r => by
    cases r
    exact ⟨[], [], rfl, .nil, rfl, .nil⟩
  | q :: a, vs, r => by
    cases r with
    | cons h r =>
      obtain ⟨p, ws, rfl, h1, r1⟩ := h.tup_iff
      obtain ⟨v, w, rfl, r2, r3⟩ := r1.two
      obtain ⟨ps, kvs, rfl, g1, g2, g3⟩ := pairs_rep e r
      refine ⟨p :: ps, (.inr q.1, w) :: kvs, rfl, .cons ?_ g1, ?_, .cons r3 g3⟩
      · rw [r2.str_iff] at h1
        exact ex_t e h1
      · simp [g2]
theorem mergeK_new : ∀ {more kvs : List (Key × V)}, ((kvs ++ more).map (·.1)).Nodup → mergeK kvs more = kvs ++ more
  | [], kvs, _ => by simp [mergeK]
  | p :: r, kvs, h => by
    have e : putK kvs p.1 p.2 = kvs ++ [p] := by
      unfold putK
      have : (kvs.any fun kv => decide (kv.1 = p.1)) = false := by
        rw [List.any_eq_false]
        intro kv hk z
        have z' := of_decide_eq_true z
        rw [List.map_append, List.nodup_append] at h
        exact h.2.2 kv.1 (List.mem_map.mpr ⟨kv, hk, rfl⟩) p.1 (by simp) z'
      rw [this]; simp
    show mergeK (putK kvs p.1 p.2) r = _
    rw [e, mergeK_new (by simpa using h)]; simp
/-- what __init__ promises -/
def SpInit (K : PySem.W.Frag) : Sp := fun vs H Q _ => ∃ (O : List Addr) (π : Pu) (x dx : Addr) (v : V) (a : List (Str × D)), vs = [.ref x, v] ∧ Dm O H ∧ PuAt O H π ∧ x ∉ O ∧ H x = some (.ins (GC K) dx []) ∧ Rep K (GC K) (hide (x :: O) H) v (.lst (a.map (·.2))) ∧
  ((∀ q ∈ a, RowOk q.1 q.2) ∧ (a.map (·.1)).Nodup ∧ a.length ≤ 24) ∧ ∀ H', (∀ b o, H b = some o → b ≠ x → (∀ c l, π = some (c, l) → b ≠ c) → H' b = some o) → (∀ c l, π = some (c, l) → H' c = some (.lst (l.map V.int))) → Rep K (GC K) (hide O H') (.ref x) (.gnd (a.map (·.1)) (a.map (·.2))) → Q .non H'
section
variable {P : Program} {w : World} {K : PySem.W.Frag} {mg : Str → Option Value} {base : Heap}
theorem sc_Ground_init : FnScope ["self", "rows", "some", "row"] ["self", "rows"] d_Ground_init.scope := ⟨rfl, rfl, rfl, by decide +kernel, rfl, by decide +kernel, by decide +kernel⟩
theorem F_init (Z : Tx P w K mg base) : ∃ (fd : FuncData) (ps : List Str), FnOk P w K mg base CX0 122 (He.ma K (GC K) "__init__") fd ps (SpInit K) ∧ Binds K fd ps [] := by
  obtain ⟨fd, F⟩ := Z.fnD 61 _ rfl
  have F : FunD K d_Ground_init.name d_Ground_init.qual d_Ground_init.params d_Ground_init.body d_Ground_init.scope [.non] (d_Ground_init.kws K) (He.ma K (GC K) "__init__") fd := F
  obtain ⟨ds0, v0, b0⟩ := F.binds1 (ps := ["self", "rows"]) 2 1 (by simp) rfl fun T kV doc pm an cdv ct us its h1 h2 => match us, h1, its, h2 with | [_, _], _, [_], _ => ⟨_, rfl, rfl⟩
  cases v0
  refine ⟨fd, ["self", "rows"], F.ok sc_Ground_init (fun vs H Q E ⟨O, π, x, dx, v, a, e, _⟩ => by rw [e]; rfl) fun cdv A outer s H vs Q E hr ⟨O, π, x, dx, v, a, e, dm, pa, hxO, hx, rv, ⟨hp1, hp2, hp3⟩, h⟩ => ?_, b0⟩
  subst e
  have sc := sc_Ground_init
  have hr : Room 121 _ := hr
  have dm1 : Dm (x :: O) H := fun b hb => by
    rcases List.mem_cons.mp hb with e | hb
    · exact ⟨_, e ▸ hx⟩
    · exact dm b hb
  have dm2 : Dm O (fun b => if b = x then none else H b) := fun b hb => by
    obtain ⟨o, e⟩ := dm b hb
    have ne : b ≠ x := fun z => hxO (z ▸ hb)
    exact ⟨o, by show (if b = x then none else H b) = _; rw [if_neg ne]; exact e⟩
  refine ⟨_, PSs.nox (pss_cons (psD (C := GC K) ⟨H, x :: O, puA π, dm1⟩ (ds_set (i := 2) sc.nd (de_if (dt_cmp op_isN d2_isN (de_var 1) de_non (nomark _)) (de_lst da_nil) (de_var 1)))) (pss_cons (psD (C := GC K) ⟨H, x :: O, puA π, dm1⟩ (ds_expr (de_call (F_need_rows Z) (hr.mono (by omega)) (da_cons (de_var 2) da_nil)))) (pss_cons (ps_fld (pe_var (i := 0) rfl (.inl rfl) (by decide) (by decide)) (peD (C := GC K) ⟨_, O, puA π, dm2⟩ (de_callTy call_list_of dc_list rfl Z.f_list rfl (da_cons (de_var 2) da_nil))) rfl)
    (pss_one (ps_fld (pe_var (i := 0) rfl (.inl rfl) (by decide) (by decide)) (pe_callTy (call_dictP rfl) rfl Z.f_dict rfl (pa_cons (peD (C := GC K) ⟨_, O, puA π, dm2⟩ (DL.de (dl_lc rfl sc.nd (di_list (de_var 2)) (blkOk_by (N := ["self", "rows", "some", "row"]) (sc := d_Ground_init.scope) (own := [("row", 3)]) (by decide +kernel)) (by decide) (fun _ _ _ _ _ => (dg_name (i := 3) sc.nd)) (fun _ _ _ _ _ => (de_tup (da_cons (de_ix ix_seq d2_ix (de_var 3) de_int) (da_cons (de_var 3) da_nil))))))) pa_nil)) rfl))))), ?_⟩
  have pa1 : PuAt (x :: O) H π := fun c l e => ⟨List.mem_cons_of_mem _ (pa c l e).1, (pa c l e).2⟩
  have xpu : ∀ c l, π = some (c, l) → x ≠ c := fun c l e z => hxO (z ▸ (pa c l e).1)
  have R0 : RS K (GC K) ⟨H, x :: O, puA π, dm1⟩ (x :: O) H [some (.ref x), some v, none, none] [.pu (.adr x), .pu (.lst (a.map (fun q : Str × D => q.2))), .no, .no] π := rs_start (N := ["self", "rows", "some", "row"]) dm1 pa1 (.cons (.adr x) (.cons rv .nil)) (by simp)
  refine ⟨_, _, _, R0, ?_⟩
  walk_at "kpe"
  refine fun σ1 H1 O1 e1 R1 => ?_
  refine ⟨_, _, _, R1, ?_⟩
  walk_at "kpe"
  refine x_f1 a rfl ⟨hp1, hp2, hp3⟩ ?_
  refine fun σ2 H2 O2 e2 R2 => ?_
  have pne : puA π ≠ some x := by
    cases π with
    | none => exact fun z => nomatch z
    | some q => exact fun z => xpu q.1 q.2 rfl (Option.some.inj z).symm
  have hx2 : H2 x = some (.ins (GC K) dx []) := R2.pres x _ hx pne
  have xO2 : x ∈ O2 := R2.sub x List.mem_cons_self
  have R2' : RS K (GC K) ⟨fun b => if b = x then none else H b, O, puA π, dm2⟩ O2 H2 σ2 [.pu (.adr x), .pu (.lst (a.map (fun q : Str × D => q.2))), .pu (.lst (a.map (fun q : Str × D => q.2))), .no] π :=
    R2.less (fun b o hb => by
      by_cases ne : b = x
      · have hb' : (if b = x then none else H b) = some o := hb
        rw [if_pos ne] at hb'; cases hb'
      · have hb' : (if b = x then none else H b) = some o := hb
        rw [if_neg ne] at hb'; exact hb') (fun b hb => List.mem_cons_of_mem _ hb) rfl
  refine ⟨_, _, _, R2', ?_⟩
  walk_at "kpe"
  refine fun v3 H3 s3 r3 => ?_
  have hx3 := s3.keep x _ hx2 fun c l e => xpu c l e
  obtain ⟨u0, hu0, ru0⟩ := R2'.sl 0 _ rfl
  cases ru0
  refine ⟨_, hu0, x, _, dx, [], rfl, hx3, Z.cls, Z.no_rows, by decide, ?_⟩
  obtain ⟨ex4, R4⟩ := (R2'.step s3).mutN (o := .ins (GC K) dx (putF "kept_rows" v3 [])) xO2 (if_pos rfl) xpu (fun j es => by
    match j with
    | 0 => simp
    | 1 => simp
    | 2 => simp
    | 3 => simp
    | j + 4 => simp)
  refine ⟨_, _, _, R4, ?_⟩
  walk_at "kpe"
  refine lcD_map (acc := []) (xs := a) (e := fun q => q.2) (h := fun q => .tup [.str q.1, q.2]) (fun q hq B hB => ?_) (by show 0 + a.length ≤ 1000000; omega) ?_
  · obtain ⟨okn, wd, ds, eq⟩ := (hp1 q hq).tup
    walk_at "kpe"
    refine x_ixD eq (atI_1 _ _ _) ?_
    walk_at "kpe"
    exact hB
  refine fun v5 H5 s5 r5 => ?_
  obtain ⟨l5, vs5, rfl, h5, r5'⟩ := r5.lst_iff
  obtain ⟨ps, kvs, rfl, g1, g2, g3⟩ := pairs_rep (H' := H5) hide_ex (by simpa using r5')
  have R5 := R4.step s5
  refine ⟨l5, ps, kvs, rfl, SqL.of (hide_ex _ _ h5), g1, fun d hd => ?_⟩
  have hx5 := s5.keep x _ upd_same fun c l e => xpu c l e
  have nxd : x ≠ d := fun z => by rw [z, hd] at hx5; cases hx5
  have dO : d ∉ O := fun z => by
    obtain ⟨o, e⟩ := R5.dom d (R5.sub d z)
    rw [hd] at e; cases e
  refine ⟨_, hu0, x, _, dx, putF "kept_rows" v3 [], rfl, by rw [upd_ne nxd]; exact hx5, Z.cls, Z.no_by, (show 1 < 1000 by decide), ?_⟩
  have hm : mergeK [] kvs = kvs := by
    have := mergeK_new (more := kvs) (kvs := []) (by
      simp only [List.nil_append]
      rw [g2, List.nodup_iff_pairwise_ne, List.pairwise_map]
      exact List.Pairwise.imp (fun h z => h (Sum.inr.inj z)) (List.nodup_iff_pairwise_ne.mp hp2))
    simpa using this
  refine h _ ?_ ?_ ?_
  · intro b o hb nb np
    have h0 : (if b = x then none else H b) = some o := by rw [if_neg nb]; exact hb
    have hpa : puA π ≠ some b := by
      cases π with
      | none => exact fun z => nomatch z
      | some q => exact fun z => np q.1 q.2 rfl (Option.some.inj z).symm
    have := R5.pres b o h0 hpa
    rw [upd_ne nb, upd_ne (ne_of_none this hd)]; exact this
  · intro c l e
    obtain ⟨k1, k2, k3⟩ := R5.pu c l e
    rw [upd_ne (Ne.symm (xpu c l e)), upd_ne (ne_of_none k2 hd)]; exact k2
  · have hex : Ex (hide O2 H5) (hide O (upd (upd H5 d (.dK (mergeK [] kvs))) x (.ins (GC K) dx (putF "kept_by" (.ref d) (putF "kept_rows" v3 []))))) := fun b o hb => by
      obtain ⟨k1, k2⟩ := hide_some hb
      have n1 : b ≠ x := fun z => k1 (z ▸ xO2)
      rw [hide_out (fun z => k1 (R5.sub b z)), upd_ne n1, upd_ne (ne_of_none k2 hd)]; exact k2
    refine .gnd (dx := dx) (fs := putF "kept_by" (.ref d) (putF "kept_rows" v3 [])) (d := d) (kvs := kvs) (by rw [hide_out hxO, upd_same]) ?_ ?_ ?_ (by rw [hide_out dO, upd_ne (Ne.symm nxd), upd_same, hm]) g2 (g3.mono hex)
    · rw [lookup_putF]; rfl
    · rw [lookup_putF, lookup_putF]; rfl
    · rw [lookup_putF, lookup_putF]; rfl
end
end Kp
set_option maxRecDepth 100000
set_option maxHeartbeats 4000000
/-! A19: Ground(rows) as an expression -/
namespace Kp
open PySem PySem.Spec L2
@[simp] def dMkG (fa : DTa) : DTe := fun ρ π Q => fa ρ π fun ds π1 => ∃ a : List (Str × D), ds = [.lst (a.map (·.2))] ∧ ((∀ q ∈ a, RowOk q.1 q.2) ∧ (a.map (·.1)).Nodup ∧ a.length ≤ 24) ∧ Q (.gnd (a.map (·.1)) (a.map (·.2))) π1
theorem de_mkG {X : Cx} {e : Expr} {es : List Expr} {fa : DTa} {p pos : Pos} {P : Program} {w : World} {K : PySem.W.Frag} {mg : Str → Option Value} {base : Heap} (Z : Tx P w K mg base) (hP : X.prog = P) (hw : X.w = w) (hK : X.K = K) (hmg : X.mg = mg) (hb0 : X.base = base) (hr : Room 123 X.A) (hg : Gl X "Ground") (ha : DA X (GC K) (e :: es) fa)
    (he : starEach (e :: es) X.env = (false, eval e X.env) :: starEach es X.env := by rfl) (hpl : (backTo pos (starEach es X.env)).any (·.1) = false := by rfl) : DE X (GC K) (.Call (.Name "Ground" p) (e :: es) [] pos) (dMkG fa) where
  pe := fun F => by
    subst hP hw hK hmg hb0
    obtain ⟨fd, ps, G1, hb⟩ := F_init Z
    refine pe_weak (pe_make Z.mkr G1 hr hg Z.g_Ground hb .nil pass0 (ha.pa F) (by decide) he hpl) fun σ H Q ⟨ρ, π, O, R, q⟩ => ?_
    refine ⟨ρ, π, O, R, ha.mono _ _ _ _ (fun ds π1 ⟨a, e1, hp, q1⟩ vs H1 s1 r1 x dx hx hdx ne => ?_) q⟩
    subst e1
    obtain ⟨v, rfl, rv⟩ := r1.one
    have R1 := R.step s1
    have old : ∀ b o, H1 b = some o → upd (upd H1 dx (.own x)) x (.ins (GC X.K) dx []) b = some o := fun b o hbo => by
      rw [upd_ne (ne_of_none hbo hx), upd_ne (ne_of_none hbo hdx)]; exact hbo
    have xO : x ∉ O := R1.fresh hx
    refine ⟨O, π1, x, dx, v, a, rfl, fun b hbO => ?_, fun c l e => ?_, xO, upd_same, rv.mono fun b o hbo => ?_, hp, fun H' k1 k2 k3 => ⟨rfl, q1 (.ref x) H' (s1.trans ⟨fun b o hbo n => k1 b o (old b o hbo) (ne_of_none hbo hx) n, fun c l e => ⟨l, e, k2 c l e⟩, fun z => z⟩) k3⟩⟩
    · obtain ⟨o, z⟩ := R1.dom b hbO
      exact ⟨o, old b o z⟩
    · obtain ⟨h1, h2, _⟩ := R1.pu c l e
      exact ⟨h1, old _ _ h2⟩
    · obtain ⟨h1, h2⟩ := hide_some hbo
      rw [hide_out (by simp only [List.mem_cons, not_or]; exact ⟨ne_of_none h2 hx, h1⟩)]
      exact old b o h2
  mono := fun ρ π Q Q' q h => ha.mono _ _ _ _ (fun ds π1 ⟨a, e, hp, z⟩ => ⟨a, e, hp, q _ _ z⟩) h
end Kp
set_option maxRecDepth 100000
set_option maxHeartbeats 4000000
local macro_rules | `(tactic| walk_at "kpn") => `(tactic| repeat (first | (apply_rules (transparency := .reducible) (exfalso := false) (symm := false) (maxDepth := 1000) only [Kp.x_next, Kp.x_ert, Kp.x_enx, Kp.x_ret, Kp.x_drop, Kp.x_asg, Kp.x_par, Kp.x_ifS, Kp.x_for, Kp.x_own, Kp.x_setL, Kp.x_c, Kp.x_nil, Kp.x_cons, Kp.x_tup, Kp.x_lst, Kp.x_bin, Kp.x_tst, Kp.x_exb, Kp.x_exi, Kp.x_exs, Kp.x_exl, Kp.x_ext2, Kp.x_1l, Kp.x_1t, Kp.x_1i, Kp.x_2i, Kp.x_ex1, Kp.x_ex2, Kp.x_and, Kp.x_or, Kp.x_not, Kp.x_if, Kp.x_ifL, Kp.x_andV, Kp.x_orV, Kp.x_notV, Kp.x_isi2, Kp.x_call, Kp.x_nop, Kp.x_part, Kp.x_sl, Kp.x_ownF, Kp.x_ownL, Kp.x_asL, Kp.x_lc, Kp.x_seL, Kp.x_seT, Kp.x_enL, Kp.x_enT, Kp.x_rng1, Kp.x_rng2, Kp.x_pset, Kp.x_meth, Kp.x_gnd, Kp.x_I0, Kp.x_eqI, Kp.x_eqS, Kp.x_isN, Kp.x_inT, Kp.x_in2, Kp.x_in5, Kp.x_slT, Kp.x_slL, Kp.x_int, Kp.x_listT, Kp.x_listL, Kp.x_tuple, Kp.x_max, Kp.x_min, Kp.x_rep0, Kp.x_rep2]) | (with_reducible apply Kp.x_oneN; focus (first | dsimp only [Kp.d0, Kp.setsD, Kp.wipeD, List.set, List.map, List.replicate, List.length, List.append, HAppend.hAppend, Append.append, Nat.reduceAdd, Nat.reduceSub] | rfl)) | (with_reducible apply Kp.x_seqN; focus (first | dsimp only [Kp.d0, Kp.setsD, Kp.wipeD, List.set, List.map, List.replicate, List.length, List.append, HAppend.hAppend, Append.append, Nat.reduceAdd, Nat.reduceSub] | rfl)) | (with_reducible apply Kp.x_fo1N; focus (first | dsimp only [Kp.d0, Kp.setsD, Kp.wipeD, List.set, List.map, List.replicate, List.length, List.append, HAppend.hAppend, Append.append, Nat.reduceAdd, Nat.reduceSub] | rfl)) | (with_reducible apply Kp.x_fo0N; focus (first | dsimp only [Kp.d0, Kp.setsD, Kp.wipeD, List.set, List.map, List.replicate, List.length, List.append, HAppend.hAppend, Append.append, Nat.reduceAdd, Nat.reduceSub] | rfl)) | (apply Kp.x_manyN rfl; focus (first | dsimp only [Kp.d0, Kp.setsD, Kp.wipeD, List.set, List.map, List.replicate, List.length, List.append, HAppend.hAppend, Append.append, Nat.reduceAdd, Nat.reduceSub] | rfl)) | (apply Kp.x_manyLN rfl; focus (first | dsimp only [Kp.d0, Kp.setsD, Kp.wipeD, List.set, List.map, List.replicate, List.length, List.append, HAppend.hAppend, Append.append, Nat.reduceAdd, Nat.reduceSub] | rfl)) | refine Kp.x_var rfl ?_ | refine Kp.x_few (Nat.le_of_ble_eq_true rfl) ?_ | refine Kp.x_ixT rfl ?_ | refine Kp.x_ixL rfl ?_ | refine Kp.x_ixD rfl rfl ?_ | refine Kp.x_slD rfl ?_ | refine Kp.x_len rfl (Nat.le_of_ble_eq_true rfl) ?_ | refine Kp.x_lenO rfl (Nat.le_of_ble_eq_true rfl) ?_ | refine Kp.x_pix rfl rfl ?_ | refine Kp.x_catL (Nat.le_of_ble_eq_true rfl) ?_ | refine Kp.x_catT (Nat.le_of_ble_eq_true rfl) ?_ | refine Kp.x_catS (Nat.le_of_ble_eq_true rfl) ?_ | refine Kp.x_app rfl (Nat.lt_of_lt_of_le (Nat.lt_succ_self _) (Nat.le_of_ble_eq_true rfl)) ?_ | refine Kp.x_ext rfl ?_ | (refine Kp.x_isi ?_ ?_; focus (first | rfl | (simp; done))) | (refine Kp.x_if_t ?_ ?_; focus (first | rfl | (simp; done))) | (refine Kp.x_if_f ?_ ?_; focus (first | rfl | (simp; done)))))
/-! A20: the law's defs without a purse -/
namespace Kp
open PySem PySem.Spec L2
section
variable {P : Program} {w : World} {K : PySem.W.Frag} {mg : Str → Option Value} {base : Heap}
theorem sc_law_app : FnScope ["_law_head", "_law_some", "_law_found", "_law_part"] ["_law_head", "_law_some"] d_law_app.scope := ⟨rfl, rfl, rfl, by decide +kernel, rfl, by decide +kernel, by decide +kernel⟩
theorem F_law_app (Z : Tx P w K mg base) : Fn P w K mg base (GC K) "_law_app" 1 [] (spF (fun a : T × List T => [toD a.1, .lst (a.2.map toD)]) (fun a => True) fun a => toD (applyT a.1 a.2)) := by
  refine fn_p0 Z (k := 0) 49 rfl rfl rfl rfl sc_law_app (by decide) (fun _ _ _ _ _ _ us hl => match us, hl with | [_, _], _ => rfl) (fun _ => rfl) (fun f cdv A outer s H E hr => by
    have sc := sc_law_app
    exact (dss_cons (ds_set (i := 2) sc.nd (de_var 0)) (dss_cons (ds_for (di_list (de_var 1)) (dg_name (i := 3) sc.nd) (dss_one (ds_set (i := 2) sc.nd (de_tup (da_cons de_str (da_cons (de_var 2) (da_cons (de_var 3) da_nil))))))) (dss_one (ds_ret (de_var 2)))))) ?hg
  rintro ⟨t, ts⟩ π hp
  simp [and_assoc]
  refine foD_inv (I := fun ds ρ π' => ∃ ts' u n, ds = ts'.map toD ∧ ρ = [.pu (toD t), .pu (.lst (ts.map toD)), .pu (toD u), n] ∧ applyT u ts' = applyT t ts ∧ π' = π) ?_ ?_ ⟨ts, t, _, rfl, rfl, rfl, rfl⟩
  · rintro ρ π' ⟨ts', u, n, e, e2, e3, e4⟩
    cases ts' with
    | nil => simp [applyT] at e3; simp [e2, e3, e4, applyT]
    | cons => cases e
  · rintro dd r ρ π' B ⟨ts', u, n, e, e2, e3, e4⟩ hB
    cases ts' with
    | nil => cases e
    | cons v ts' =>
      simp only [List.map_cons, List.cons.injEq] at e
      obtain ⟨e, e'⟩ := e
      subst e e2 e4
      simp [and_assoc]
      exact hB _ _ ⟨ts', tAp u v, _, e', rfl, e3, rfl⟩
/-- the names as data -/
def nmD (N : Nm) : D := .lst (N.all.map D.str)
theorem sc_law_number : FnScope ["_law_names_here", "_law_many", "_law_found", "_law_turn"] ["_law_names_here", "_law_many"] d_law_number.scope := ⟨rfl, rfl, rfl, by decide +kernel, rfl, by decide +kernel, by decide +kernel⟩
theorem F_law_number (Z : Tx P w K mg base) (N : Nm) : Fn P w K mg base (GC K) "_law_number" 1 [] (spF (fun a : Nat => [nmD N, .int a]) (fun a => a ≤ 100) fun a => toD (numT N a)) := by
  refine fn_p0 Z (k := 0) 51 rfl rfl rfl rfl sc_law_number (by decide) (fun _ _ _ _ _ _ us hl => match us, hl with | [_, _], _ => rfl) (fun _ => rfl) (fun f cdv A outer s H E hr => by
    have sc := sc_law_number
    exact (dss_cons (ds_set (i := 2) sc.nd (de_tup (da_cons de_str (da_cons (de_ix ix_seq d2_ix (de_var 0) de_int) (da_cons de_int da_nil))))) (dss_cons (ds_for (di_range1 rfl Z.f_range (da_cons (de_var 1) da_nil)) (dg_name (i := 3) sc.nd) (dss_one (ds_set (i := 2) sc.nd (de_tup (da_cons de_str (da_cons (de_tup (da_cons de_str (da_cons (de_ix ix_seq d2_ix (de_var 0) de_int) (da_cons de_int da_nil)))) (da_cons (de_var 2) da_nil))))))) (dss_one (ds_ret (de_var 2)))))) ?hg
  rintro n π hp
  walk_at "kpe"
  refine ⟨by omega, by omega, ?_⟩
  refine foD_inv (I := fun ds ρ π' => ∃ j x, ds.length + j = n ∧ ρ = [.pu (nmD N), .pu (.int n), .pu (toD (numT N j)), x] ∧ π = π') ?_ ?_ ⟨0, _, by simp [rngD], rfl, rfl⟩
  · rintro ρ π' ⟨j, x, e1, e2, e3⟩
    have e1' : j = n := by simpa using e1
    subst e1' e2 e3
    walk_at "kpe"
    exact ⟨rfl, rfl⟩
  · rintro dd r ρ π' B ⟨j, x, e1, e2, e3⟩ hB
    subst e2 e3
    walk_at "kpe"
    exact hB _ _ ⟨j + 1, _, by simp at e1; omega, rfl, rfl⟩
abbrev sp_lraised (d : Nat) : SpecD := spF (fun a : T × Int × Int => [toD a.1, .int a.2.1, .int a.2.2]) (fun a => a.1.dp ≤ d ∧ 0 ≤ a.2.1 ∧ a.2.1 ≤ 1000) fun a => toD (a.1.raise a.2.1 a.2.2)
theorem sc_law_raised : FnScope ["_law_term", "_law_by", "_law_start", "_law_found", "_law_k", "_law_part", "_law_more"] ["_law_term", "_law_by", "_law_start"] d_law_raised.scope := ⟨rfl, rfl, rfl, by decide +kernel, rfl, by decide +kernel, by decide +kernel⟩
theorem F_law_raised_of (Z : Tx P w K mg base) {k d : Nat} (h : Fn P w K mg base (GC K) "_law_raised" (k + 1) [] (sp_lraised d)) : Fn P w K mg base (GC K) "_law_raised" (k + 2) [] (sp_lraised (d + 1)) := by
  refine fn_p0 Z (k := (k+1)) 52 rfl rfl rfl rfl sc_law_raised (by decide) (fun _ _ _ _ _ _ us hl => match us, hl with | [_, _, _], _ => rfl) (fun _ => rfl) (fun f cdv A outer s H E hr => by
    have sc := sc_law_raised
    exact (dss_cons (ds_if (dt_cmp op_eq d2_eqS (de_ix ix_seq d2_ix (de_var 0) de_int) de_str (nomark _)) (dss_one (ds_ret (de_tup (da_cons de_str (da_cons (de_bin op_add d2_addI (de_ix ix_seq d2_ix (de_var 0) de_int) (de_bin op_mul d2_mulI (de_var 1) (de_callTy call_int1 dc_int rfl Z.f_int rfl (da_cons (de_cmp op_ge d2_ge (de_ix ix_seq d2_ix (de_var 0) de_int) (de_var 2) (nomark _)) da_nil)))) da_nil))))) dss_nil) (dss_cons (ds_own (i := 3) sc.nd (dl_lst (da_cons (de_ix ix_seq d2_ix (de_var 0) de_int) da_nil))) (dss_cons (ds_for (di_enumT rfl Z.f_enumerate (da_cons (de_slice (de_var 0) (do_some de_int) do_none) da_nil)) (dg_tup rfl (dgs_cons (i := 4) sc.nd (dgs_cons (i := 5) sc.nd dgs_nil))) (dss_cons (ds_set (i := 6) sc.nd (de_callTy call_int1 dc_int rfl Z.f_int rfl (da_cons (de_and (de_cmp op_in_seq (d2_inT false) (de_ix ix_seq d2_ix (de_var 0) de_int) (de_tup (da_cons de_str (da_cons de_str da_nil))) rfl) (de_one (de_cmp op_eq d2_eqS (de_var 4) de_int (nomark _)))) da_nil))) (dss_one (ds_append 3 (de_if (dt_val (de_callB call_isi dc_isi rfl Z.f_isinstance rfl (da_cons (de_var 5) (da_cons (de_ty .tuple rfl Z.f_tuple rfl) da_nil)))) (de_call (h) (hr.mono (by omega)) (da_cons (de_var 5) (da_cons (de_var 1) (da_cons (de_bin op_add d2_addI (de_var 2) (de_var 6)) da_nil)))) (de_var 5)))))) (dss_one (ds_frz 3 (ds_ret (de_callTy call_tuple_of dc_tuple rfl Z.f_tuple rfl (da_cons (de_var 3) da_nil))))))))) ?hg
  rintro ⟨t, by_, s⟩ π ⟨h1, h2, h3⟩
  simp only at h1 h2 h3
  cases t with
  | var n =>
    walk_at "kpn"
    refine x_I (Or.inl ⟨by omega, by omega⟩) ?_
    walk_at "kpn"
    by_cases hn : s ≤ n
    · exact ⟨by simp [T.raise, hn], rfl⟩
    · exact ⟨by simp [T.raise, hn], rfl⟩
  | leaf l =>
    cases l with
    | kind n =>
      walk_at "kpn"
      simp only [Lf.d, cutD_1, enumD]
      walk_at "kpn"
      exact ⟨rfl, rfl⟩
    | name n =>
      walk_at "kpn"
      simp only [Lf.d, cutD_1, enumD]
      walk_at "kpn"
      exact ⟨rfl, rfl⟩
    | thing n =>
      walk_at "kpn"
      simp only [Lf.d, cutD_1, enumD]
      walk_at "kpn"
      exact ⟨rfl, rfl⟩
    | maker n m =>
      walk_at "kpn"
      simp only [Lf.d, cutD_1, enumD]
      walk_at "kpn"
      exact ⟨rfl, rfl⟩
    | eater n m =>
      walk_at "kpn"
      simp only [Lf.d, cutD_1, enumD]
      walk_at "kpn"
      exact ⟨rfl, rfl⟩
  | bin b x y =>
    simp only [T.dp] at h1
    have m1 := Nat.le_max_left x.dp y.dp
    have m2 := Nat.le_max_right x.dp y.dp
    cases b <;> (
    walk_at "kpn"
    simp only [Lf.d, cutD_1, enumD]
    walk_at "kpn"
    refine x_f1 (x, by_, _) rfl ⟨by simp only; omega, h2, h3⟩ ?_
    walk_at "kpn"
    refine x_f1 (y, by_, _) rfl ⟨by simp only; omega, h2, h3⟩ ?_
    walk_at "kpn"
    exact ⟨by simp [T.raise], rfl⟩)
  | tri b x y z =>
    simp only [T.dp] at h1
    have m1 := Nat.le_max_left x.dp (max y.dp z.dp)
    have m2 := Nat.le_max_right x.dp (max y.dp z.dp)
    have m3 := Nat.le_max_left y.dp z.dp
    have m4 := Nat.le_max_right y.dp z.dp
    cases b <;> (
    walk_at "kpn"
    simp only [Lf.d, cutD_1, enumD]
    walk_at "kpn"
    refine x_f1 (x, by_, _) rfl ⟨by simp only; omega, h2, h3⟩ ?_
    walk_at "kpn"
    refine x_f1 (y, by_, _) rfl ⟨by simp only; omega, h2, h3⟩ ?_
    walk_at "kpn"
    refine x_f1 (z, by_, _) rfl ⟨by simp only; omega, h2, h3⟩ ?_
    walk_at "kpn"
    exact ⟨by simp [T.raise], rfl⟩)
theorem F_law_raised (Z : Tx P w K mg base) : ∀ d : Nat, Fn P w K mg base (GC K) "_law_raised" (d + 1) [] (sp_lraised d)
  | 0 => by
    refine fn_void Z 52 rfl rfl rfl rfl (ps := ["_law_term", "_law_by", "_law_start"]) (fun _ _ _ _ _ _ us hl => match us, hl with | [_, _, _], _ => rfl) ?_
    rintro ds π Q ⟨⟨t, _⟩, e, ⟨h1, h2⟩, q⟩
    have := t.dp_pos
    simp only at h1
    omega
  | d + 1 => F_law_raised_of Z (F_law_raised Z d)
end
end Kp
set_option maxRecDepth 100000
set_option maxHeartbeats 4000000
/-! A21: height, cell -/
namespace Kp
open PySem PySem.Spec L2
def T.height : T → Int
  | .leaf (.kind n) => n + 1
  | .bin .al x y => if y.height > x.height then y.height else x.height
  | _ => 0
theorem x_ixI {ns : List Int} {i c : Int} {Q : KD} (h : atI ns i = some c) (q : Q (.int c)) : kIx (.inp ns) (.int i) Q := ⟨i, rfl, .inr (.inr (.inr ⟨ns, c, rfl, h, q⟩))⟩
section
variable {P : Program} {w : World} {K : PySem.W.Frag} {mg : Str → Option Value} {base : Heap}
abbrev sp_height (d : Nat) : SpecD := spF (fun t : T => [toD t]) (fun t => t.dp ≤ d) fun t => .int t.height
theorem sc_law_height : FnScope ["_law_saying_here"] ["_law_saying_here"] d_law_height.scope := ⟨rfl, rfl, rfl, by decide +kernel, rfl, by decide +kernel, by decide +kernel⟩
theorem F_height_of (Z : Tx P w K mg base) {k d : Nat} (h : Fn P w K mg base (GC K) "_law_height" (k + 1) [] (sp_height d)) : Fn P w K mg base (GC K) "_law_height" (k + 2) [] (sp_height (d + 1)) := by
  refine fn_p0 Z (k := (k+1)) 54 rfl rfl rfl rfl sc_law_height (by decide) (fun _ _ _ _ _ _ us hl => match us, hl with | [_], _ => rfl) (fun _ => rfl) (fun f cdv A outer s H E hr => by
    have sc := sc_law_height
    exact (dss_cons (ds_if (dt_cmp op_eq d2_eqS (de_ix ix_seq d2_ix (de_var 0) de_int) de_str (nomark _)) (dss_one (ds_ret (de_bin op_add d2_addI (de_ix ix_seq d2_ix (de_var 0) de_int) de_int))) dss_nil) (dss_one (ds_ret (de_if (dt_cmp op_eq d2_eqS (de_ix ix_seq d2_ix (de_var 0) de_int) de_str (nomark _)) (de_callB (call_max2 rfl) dc_max rfl Z.f_max rfl (da_cons (de_call (h) (hr.mono (by omega)) (da_cons (de_ix ix_seq d2_ix (de_var 0) de_int) da_nil)) (da_cons (de_call (h) (hr.mono (by omega)) (da_cons (de_ix ix_seq d2_ix (de_var 0) de_int) da_nil)) da_nil))) de_int))))) ?hg
  rintro t π h1
  cases t with
  | var n =>
    walk_at "kpn"
    exact ⟨rfl, rfl⟩
  | leaf l => cases l <;> (
    walk_at "kpn"
    exact ⟨rfl, rfl⟩)
  | tri b x y z => cases b <;> (
    walk_at "kpn"
    exact ⟨rfl, rfl⟩)
  | bin b x y =>
    simp only [T.dp] at h1
    have m1 := Nat.le_max_left x.dp y.dp
    have m2 := Nat.le_max_right x.dp y.dp
    cases b with
    | al =>
      walk_at "kpn"
      refine x_f1 x rfl (by omega) ?_
      walk_at "kpn"
      refine x_f1 y rfl (by omega) ?_
      walk_at "kpn"
      exact ⟨rfl, rfl⟩
    | fn =>
      walk_at "kpn"
      exact ⟨rfl, rfl⟩
    | ap =>
      walk_at "kpn"
      exact ⟨rfl, rfl⟩
    | sf =>
      walk_at "kpn"
      exact ⟨rfl, rfl⟩
theorem F_height (Z : Tx P w K mg base) : ∀ d : Nat, Fn P w K mg base (GC K) "_law_height" (d + 1) [] (sp_height d)
  | 0 => by
    refine fn_void Z 54 rfl rfl rfl rfl (ps := ["_law_saying_here"]) (fun _ _ _ _ _ _ us hl => match us, hl with | [_], _ => rfl) ?_
    rintro ds π Q ⟨t, e, h1, q⟩
    have := t.dp_pos
    omega
  | d + 1 => F_height_of Z (F_height Z d)
theorem sc_law_cell : FnScope ["_law_script", "_law_k"] ["_law_script", "_law_k"] d_law_cell.scope := ⟨rfl, rfl, rfl, by decide +kernel, rfl, by decide +kernel, by decide +kernel⟩
theorem F_law_cell (Z : Tx P w K mg base) : Fn P w K mg base (GC K) "_law_cell" 1 [] (spF (fun a : List Int × Nat × Int => [.inp a.1, .int a.2.1]) (fun a => a.1.length ≤ 1000000 ∧ a.2.1 ≤ 100 ∧ a.2.2 = (if (a.2.1 : Int) < a.1.length then a.1.getD a.2.1 0 else 6113 * a.2.1 + 19)) fun a => .int a.2.2) := by
  refine fn_p0 Z (k := 0) 45 rfl rfl rfl rfl sc_law_cell (by decide) (fun _ _ _ _ _ _ us hl => match us, hl with | [_, _], _ => rfl) (fun _ => rfl) (fun f cdv A outer s H E hr => by
    have sc := sc_law_cell
    exact (dss_cons (ds_if (dt_cmp op_lt d2_lt (de_var 1) (de_callB call_len dc_len rfl Z.f_len rfl (da_cons (de_var 0) da_nil)) (nomark _)) (dss_one (ds_ret (de_ix ix_seq d2_ix (de_var 0) (de_var 1)))) dss_nil) (dss_one (ds_ret (de_bin op_add d2_addI (de_bin op_mul d2_mulI de_int (de_var 1)) de_int))))) ?hg
  rintro ⟨ns, k, r⟩ π ⟨h1, h2, h3⟩
  simp only at h1 h2 h3
  walk_at "kpn"
  refine x_len rfl (by omega) ?_
  walk_at "kpn"
  by_cases hk : (k : Int) < ns.length
  · refine x_if_t (by simpa using hk) ?_
    walk_at "kpn"
    have hk' : k < ns.length := by omega
    refine x_ixI (c := ns.getD k 0) (by rw [atI_nat, List.getD_eq_getElem?_getD, List.getElem?_eq_getElem hk']; rfl) ?_
    walk_at "kpn"
    exact ⟨by rw [h3, if_pos hk], rfl⟩
  · refine x_if_f (by simpa using hk) ?_
    walk_at "kpn"
    refine x_I (Or.inl ⟨by decide, by decide⟩) ?_
    walk_at "kpn"
    exact ⟨by rw [h3, if_neg hk], rfl⟩
end
end Kp
set_option maxRecDepth 100000
set_option maxHeartbeats 2000000
/-! M9: sayings, what is made of them, larger terms, the way -/
namespace Kp
open PySem PySem.Spec L2
/-- a saying, nested so deep at most -/
inductive Sy (N : Nm) : Nat → T → Prop
  | num {l : Nat} : Sy N l (tTh N.num)
  | bit {l : Nat} : Sy N l (tTh N.bit)
  | tree {l : Nat} : Sy N l (tTh N.tree)
  | line {l : Nat} {t : T} : Sy N l t → Sy N (l + 1) (tAp (tTh N.line) t)
  | same {l : Nat} {x : T} : Bd N 2 3 x → Nf N x → Sy N l (.tri .sm (tTh N.num) x x)
  | all {l : Nat} {a b : T} : Sy N l a → Sy N l b → Sy N (l + 1) (tAl a b)
  | both {l : Nat} {a b : T} : Sy N l a → Sy N l b → Sy N (l + 1) (tAp (tAp (tTh N.both) a) b)
  | either {l : Nat} {a b : T} : Sy N l a → Sy N l b → Sy N (l + 1) (tAp (tAp (tTh N.either) a) b)
def sS : Nat → Nat
  | 0 => 8
  | l + 1 => 2 * sS l + 3
section
variable {N : Nm} {d m : Nat} {r : T}
theorem Sy.raise : ∀ {l : Nat} {S : T}, Sy N l S → ∀ s : Int, 0 ≤ s → Sy N l (S.raise 1 s)
  | _, _, .num, _, _ => .num
  | _, _, .bit, _, _ => .bit
  | _, _, .tree, _, _ => .tree
  | _, _, .line h, s, hs => .line (h.raise (s + Bn.ap.bd) (by simp; omega))
  | _, _, .same h n, s, hs => .same (h.raise (by decide) s) (n.raise hs)
  | _, _, .all h g, s, hs => .all (h.raise s hs) (g.raise (s + 1) (by omega))
  | _, _, .both h g, s, hs => .both (h.raise (s + Bn.ap.bd) (by simp; omega)) (g.raise (s + Bn.ap.bd) (by simp; omega))
  | _, _, .either h g, s, hs => .either (h.raise (s + Bn.ap.bd) (by simp; omega)) (g.raise (s + Bn.ap.bd) (by simp; omega))
theorem th_bd {s : Str} (h : okName s) {d m : Nat} (h1 : 1 ≤ d) (h2 : 1 ≤ m) : Bd N d m (tTh s) := bd_leaf h trivial h1 h2
theorem mk_bd {s : Str} {k : Int} (h : okName s) (hk : 0 ≤ k) {d m : Nat} (h1 : 1 ≤ d) (h2 : 1 ≤ m) : Bd N d m (tMk s k) := bd_leaf ⟨h, hk⟩ trivial h1 h2
theorem Nm.Ok.tree (h : N.Ok) : okName N.tree := h.ok _ (by simp [Nm.all])
theorem Nm.Ok.line (h : N.Ok) : okName N.line := h.ok _ (by simp [Nm.all])
theorem Nm.Ok.both (h : N.Ok) : okName N.both := h.ok _ (by simp [Nm.all])
theorem Nm.Ok.either (h : N.Ok) : okName N.either := h.ok _ (by simp [Nm.all])
theorem sS_pos : ∀ l, 8 ≤ sS l
  | 0 => Nat.le_refl _
  | l + 1 => by have := sS_pos l; show 8 ≤ 2 * sS l + 3; omega
theorem Sy.bd0 (hN : N.Ok) : ∀ {l : Nat} {S : T}, Sy N l S → Bd N (2 * l + 3) (sS l) S
  | l, _, .num => th_bd hN.num (by omega) (by have := sS_pos l; omega)
  | l, _, .bit => th_bd hN.bit (by omega) (by have := sS_pos l; omega)
  | l, _, .tree => th_bd hN.tree (by omega) (by have := sS_pos l; omega)
  | _, _, .line (l := l) h => (Bd.bin .ap (th_bd hN.line (d := 2 * l + 3) (m := 1) (by omega) (by omega)) (h.bd0 hN)).up (by omega) (by have := sS_pos l; show _ ≤ 2 * sS l + 3; omega)
  | l, _, .same h n => (Bd.tri .sm (th_bd hN.num (d := 2) (m := 1) (by omega) (by omega)) h h).up (by omega) (sS_pos l)
  | _, _, .all (l := l) h g => (Bd.bin .al (h.bd0 hN) (g.bd0 hN)).up (by omega) (by show _ ≤ 2 * sS l + 3; omega)
  | _, _, .both (l := l) h g => (Bd.bin .ap (Bd.bin .ap (th_bd hN.both (d := 2 * l + 3) (m := 1) (by omega) (by omega)) (h.bd0 hN)) ((g.bd0 hN).up (Nat.le_succ _) (Nat.le_refl _))).up (by omega) (by show _ ≤ 2 * sS l + 3; omega)
  | _, _, .either (l := l) h g => (Bd.bin .ap (Bd.bin .ap (th_bd hN.either (d := 2 * l + 3) (m := 1) (by omega) (by omega)) (h.bd0 hN)) ((g.bd0 hN).up (Nat.le_succ _) (Nat.le_refl _))).up (by omega) (by show _ ≤ 2 * sS l + 3; omega)
theorem Sy.bd (hN : N.Ok) {l : Nat} {S : T} (h : Sy N l S) (hl : l ≤ 2) : Bd N 7 41 S := (h.bd0 hN).up (by omega) (by
  match l, hl with
  | 0, _ => decide
  | 1, _ => decide
  | 2, _ => decide)
theorem Sy.nf : ∀ {l : Nat} {S : T}, Sy N l S → Nf N S
  | _, _, .num => nf_th
  | _, _, .bit => nf_th
  | _, _, .tree => nf_th
  | _, _, .line h => nf_ap mh_th nf_th h.nf
  | _, _, .same h n => nf_sm nf_th n n
  | _, _, .all h g => nf_al h.nf g.nf
  | _, _, .both h g => nf_ap (mh_ap.mpr mh_th) (nf_ap mh_th nf_th h.nf) g.nf
  | _, _, .either h g => nf_ap (mh_ap.mpr mh_th) (nf_ap mh_th nf_th h.nf) g.nf
theorem Sy.ht : ∀ {l : Nat} {S : T}, Sy N l S → S.height = 0
  | _, _, .num => rfl
  | _, _, .bit => rfl
  | _, _, .tree => rfl
  | _, _, .line h => rfl
  | _, _, .same h n => rfl
  | _, _, .all h g => by simp only [T.height, h.ht, g.ht]; rfl
  | _, _, .both h g => rfl
  | _, _, .either h g => rfl
theorem Sy.up : ∀ {l : Nat} {S : T}, Sy N l S → ∀ {k : Nat}, l ≤ k → Sy N k S
  | _, _, .num, _, _ => .num
  | _, _, .bit, _, _ => .bit
  | _, _, .tree, _, _ => .tree
  | _, _, .same h n, _, _ => .same h n
  | _, _, .line h, k + 1, l => .line (h.up (Nat.le_of_succ_le_succ l))
  | _, _, .all h g, k + 1, l => .all (h.up (Nat.le_of_succ_le_succ l)) (g.up (Nat.le_of_succ_le_succ l))
  | _, _, .both h g, k + 1, l => .both (h.up (Nat.le_of_succ_le_succ l)) (g.up (Nat.le_of_succ_le_succ l))
  | _, _, .either h g, k + 1, l => .either (h.up (Nat.le_of_succ_le_succ l)) (g.up (Nat.le_of_succ_le_succ l))
/-! ### larger terms -/
def gF (f : Nat) : Nat := max (2 * f + 1) (f + 7)
/-- of the same end, by steps -/
def Lg (N : Nm) (d m f : Nat) (r t : T) : Prop := Ev N (d + 5) (2 * m + 300) r (gF f) t
theorem sd_bd {S : T} {l : Nat} (hN : N.Ok) (hS : Sy N l S) (hl : l ≤ 2) {s : Str} (hs : okName s) {d : Nat} (hd : 8 ≤ d) : Bd N d 43 (tFn (tTh s) (S.raise 1 0)) :=
  (Bd.bin .fn (th_bd hs (d := 7) (m := 1) (by omega) (by omega)) (((hS.raise 0 (Int.le_refl _)).bd hN hl))).up (by omega) (by omega)
variable {S t : T} {l f : Nat} (hN : N.Ok) (hS : Sy N l S) (hl : l ≤ 2) (hd : 9 ≤ d) (h : Ev N d m r f t)
include hN hS hl hd h
theorem lg_id : Lg N d m f r (tAp (tFn S (.var 0)) t) :=
  (ev_id (d := d) ((hS.bd hN hl).up (by omega) (Nat.le_refl _)) hS.nf (h.up (Nat.le_refl _) (Nat.le_succ d) (Nat.le_refl m))).up (by unfold gF; omega) (by omega) (by omega)
theorem lg_const {k : Nat} (hk : k ≤ 2) : Lg N d m f r (tAp (tFn (tTh N.num) (t.raise 1 0)) (numT N k)) :=
  (ev_const (th_bd hN.num (m := 1) (by omega) (by omega)) nf_th ((bd_numT hN k).up (m' := 5) (by omega) (by omega)) (nf_numT N k) h).up (by unfold gF; omega) (by omega) (by omega)
theorem lg_put {k : Nat} (hk : k ≤ 2) : Lg N d m f r (.tri .pt (tFn (tTh N.num) (S.raise 1 0)) (.bin .sf (tTh N.num) (numT N k)) t) :=
  (ev_put (sd_bd hN hS hl hN.num (d := d) (by omega)) (nf_fn nf_th (hS.raise 0 (Int.le_refl _)).nf) (th_bd hN.num (m := 1) (by omega) (by omega)) nf_th ((bd_numT hN k).up (m' := 5) (by omega) (by omega)) (nf_numT N k) h).up (by unfold gF; omega) (by omega) (by omega)
theorem lg_bit {b : Nat} (hb : b = 0 ∨ b = 1) : Lg N d m f r (eT N.bit 0 (tFn (tTh N.bit) (S.raise 1 0)) t t (tMk N.bit b)) := by
  have e : d - 2 + 2 = d := by omega
  have h' : Ev N (d - 2 + 2) m r f t := by rw [e]; exact h
  exact (ev_bit (d := d - 2) hN (by decide) (sd_bd hN hS hl hN.bit (d := d - 2 + 1) (by omega)) (nf_fn nf_th (hS.raise 0 (Int.le_refl _)).nf) hb h' h').up (by unfold gF; omega) (by omega) (by omega)
theorem lg_num {k : Nat} (hk : k ≤ 2) : Lg N d m f r (eT N.num 0 (tFn (tTh N.num) (S.raise 1 0)) t (stT N S) (numT N k)) := by
  have e : d - 2 + 2 = d := by omega
  have h' : Ev N (d - 2 + 2) m r f t := by rw [e]; exact h
  have hk2 : k * (43 + 11) ≤ 108 := by have := Nat.mul_le_mul_right (43 + 11) hk; omega
  exact (ev_num (d := d - 2) (n := 43) hN (by decide) ((hS.bd hN hl).up (by omega) (by omega)) hS.nf (sd_bd hN hS hl hN.num (d := d - 2 + 1) (by omega)) (nf_fn nf_th (hS.raise 0 (Int.le_refl _)).nf) k hk h').up (by unfold gF; omega) (by omega) (by omega)
end
/-! ### the way -/
theorem Ev.gd {N : Nm} {d m f : Nat} {r t : T} (h : Ev N d m r f t) (hd : d ≤ 56) (hm : m ≤ 100000) : Gd N t := ⟨h.bd.ok, Nat.le_trans h.bd.dp hd, h.bd.ea, Nat.le_trans h.bd.sz hm⟩
theorem ev_way {N : Nm} {d m : Nat} {r : T} (hd : d ≤ 56) (hm : m ≤ 100000) : ∀ {f : Nat} {t : T}, Ev N d m r f t → ∃ sps, Way N t sps r ∧ sps.length ≤ f := by
  intro f
  induction f with
  | zero =>
    intro t h
    have e := h.2.2
    subst e
    exact ⟨[], .stop (h.gd hd hm) h.2.1, Nat.le_refl _⟩
  | succ f ih =>
    intro t h
    cases e : stepsT N t with
    | nil =>
      have e2 := h.2.1 e
      subst e2
      exact ⟨[], .stop (h.gd hd hm) e, Nat.zero_le _⟩
    | cons p l =>
      obtain ⟨sps, w, hl⟩ := ih (h.2.2 p (by rw [e]; exact List.mem_cons_self))
      exact ⟨p.1 :: sps, .step (h.gd hd hm) e w, Nat.succ_le_succ hl⟩
end Kp
set_option maxRecDepth 100000
set_option maxHeartbeats 4000000
/-! Dl13: len(repr(t)), a comprehension with a test, sep.join, text.index, a loop whose turns each make a purse -/
namespace Kp
open PySem PySem.Spec L2
/-! ### len(repr(t)) -/
/-- all places and makers' numbers are small -/
def T.vle (B : Int) : T → Prop
  | .var n => n ≤ B
  | .leaf (.maker _ n) => n ≤ B
  | .leaf _ => True
  | .bin _ x y => x.vle B ∧ y.vle B
  | .tri _ x y z => x.vle B ∧ y.vle B ∧ z.vle B
theorem T.vle_up {B B' : Int} (h : B ≤ B') : ∀ {t : T}, t.vle B → t.vle B'
  | .var n, q => by simp only [T.vle] at q ⊢; omega
  | .leaf l, q => by cases l <;> simp only [T.vle] at q ⊢ <;> omega
  | .bin _ x y, q => ⟨T.vle_up h q.1, T.vle_up h q.2⟩
  | .tri _ x y z, q => ⟨T.vle_up h q.1, T.vle_up h q.2.1, T.vle_up h q.2.2⟩
theorem T.vle_raise {B b : Int} (hb : 0 ≤ b) (s : Int) : ∀ {t : T}, t.vle B → (t.raise b s).vle (B + b) := by
  intro t
  induction t generalizing s with
  | var n => intro h; simp only [T.raise]; split <;> simp only [T.vle] at h ⊢ <;> omega
  | leaf l => intro h; cases l <;> simp only [T.raise, T.vle] at h ⊢; omega
  | bin c x y hx hy => intro h; exact ⟨hx s h.1, hy _ h.2⟩
  | tri c x y z hx hy hz => intro h; exact ⟨hx s h.1, hy _ h.2.1, hz _ h.2.2⟩
theorem okName_sign {s : Str} (h : okName s) : ∀ c ∈ s.cps.toList, c < 16 ^ 8 := fun c hc => by
  have e : ∀ c ∈ ("abcdefghijklmnopqrstuvwxyz" : Str).cps.toList, c < 16 ^ 8 := by decide +kernel
  exact e c (h.2.2.2 c hc)
theorem rb_str {s : Str} (h : ∀ c ∈ s.cps.toList, c < 16 ^ 8) : rbOk (.str s) = true := by
  simp only [rbOk]
  exact List.all_eq_true.mpr fun c hc => decide_eq_true (h c hc)
theorem rb_int {n : Int} (h0 : 0 ≤ n) (h : n ≤ 1000) : rbOk (.int n) = true := by
  simp only [rbOk]
  exact decide_eq_true (by omega)
theorem rb_bn (b : Bn) : rbOk (.str b.s) = true ∧ rbLen (.str b.s) ≤ 42 := by cases b <;> exact ⟨by decide +kernel, by decide +kernel⟩
theorem rb_tr (b : Tr) : rbOk (.str b.s) = true ∧ rbLen (.str b.s) ≤ 42 := by cases b <;> exact ⟨by decide +kernel, by decide +kernel⟩
theorem rb_name {s : Str} (h : okName s) : rbOk (.str s) = true ∧ rbLen (.str s) ≤ 82 := ⟨rb_str (okName_sign h), by have := h.2.1; simp only [rbLen]; omega⟩
theorem rb_w : (rbOk (.str "at") = true ∧ rbLen (.str "at") ≤ 52) ∧ (rbOk (.str "kind") = true ∧ rbLen (.str "kind") ≤ 52) ∧ (rbOk (.str "name") = true ∧ rbLen (.str "name") ≤ 52) ∧ (rbOk (.str "thing") = true ∧ rbLen (.str "thing") ≤ 52) ∧ (rbOk (.str "maker") = true ∧ rbLen (.str "maker") ≤ 52) ∧ (rbOk (.str "eater") = true ∧ rbLen (.str "eater") ≤ 52) := by
  decide +kernel
theorem rb_toD : ∀ {t : T}, t.ok → t.vle 1000 → ∃ xs, py (toD t) = .tuple xs ∧ rbOks xs = true ∧ rbLens xs + 5 ≤ 160 * t.sz ∧ PyData.depthAll xs + 1 ≤ t.dp := by
  have W := rb_w
  intro t
  induction t with
  | var n =>
    intro h v
    refine ⟨[.str "at", .int n], rfl, ?_, ?_, ?_⟩
    · simp only [rbOks, W.1.1, rb_int (by simpa using h) (by simpa [T.vle] using v)]; rfl
    · have := W.1.2; simp only [rbLens, T.sz]; have e : rbLen (.int n) = 5 := by simp only [rbLen]
      omega
    · simp [PyData.depthAll, PyData.depth]
  | leaf l =>
    intro h v
    cases l with
    | kind n =>
      refine ⟨[.str "kind", .int n], rfl, ?_, ?_, ?_⟩
      · simp only [T.ok, Lf.ok] at h
        simp only [rbOks, W.2.1.1, rb_int h.1 (by omega)]; rfl
      · have := W.2.1.2; simp only [rbLens, T.sz]; have e : rbLen (.int n) = 5 := by simp only [rbLen]
        omega
      · simp [PyData.depthAll, PyData.depth]
    | name s =>
      have r := rb_name h
      refine ⟨[.str "name", .str s], rfl, ?_, ?_, ?_⟩
      · simp only [rbOks, W.2.2.1.1, r.1]; rfl
      · have := W.2.2.1.2; simp only [rbLens, T.sz]; omega
      · simp [PyData.depthAll, PyData.depth]
    | thing s =>
      have r := rb_name h
      refine ⟨[.str "thing", .str s], rfl, ?_, ?_, ?_⟩
      · simp only [rbOks, W.2.2.2.1.1, r.1]; rfl
      · have := W.2.2.2.1.2; simp only [rbLens, T.sz]; omega
      · simp [PyData.depthAll, PyData.depth]
    | maker s n =>
      have r := rb_name h.1
      refine ⟨[.str "maker", .str s, .int n], rfl, ?_, ?_, ?_⟩
      · simp only [rbOks, W.2.2.2.2.1.1, r.1, rb_int h.2 (by simpa [T.vle] using v)]; rfl
      · have := W.2.2.2.2.1.2; simp only [rbLens, T.sz]; have e : rbLen (.int n) = 5 := by simp only [rbLen]
        omega
      · simp [PyData.depthAll, PyData.depth]
    | eater s n =>
      have r := rb_name h.1
      have h2 := h.2
      refine ⟨[.str "eater", .str s, .int n], rfl, ?_, ?_, ?_⟩
      · simp only [rbOks, W.2.2.2.2.2.1, r.1, rb_int h2.1 (by omega)]; rfl
      · have := W.2.2.2.2.2.2; simp only [rbLens, T.sz]; have e : rbLen (.int n) = 5 := by simp only [rbLen]
        omega
      · simp [PyData.depthAll, PyData.depth]
  | bin b x y hx hy =>
    intro h v
    obtain ⟨xs, e1, o1, l1, d1⟩ := hx h.1 v.1
    obtain ⟨ys, e2, o2, l2, d2⟩ := hy h.2 v.2
    have r := rb_bn b
    refine ⟨[.str b.s, .tuple xs, .tuple ys], by simp only [toD, py, pys, e1, e2], ?_, ?_, ?_⟩
    · have a1 : rbOk (.tuple xs) = true := by simp only [rbOk]; exact o1
      have a2 : rbOk (.tuple ys) = true := by simp only [rbOk]; exact o2
      simp only [rbOks, r.1, a1, a2]; rfl
    · have e3 : rbLen (.tuple xs) = rbLens xs + 5 := by simp only [rbLen]
      have e4 : rbLen (.tuple ys) = rbLens ys + 5 := by simp only [rbLen]
      simp only [rbLens, T.sz, e3, e4]; omega
    · simp only [PyData.depthAll, PyData.depth, T.dp]; omega
  | tri b x y z hx hy hz =>
    intro h v
    obtain ⟨xs, e1, o1, l1, d1⟩ := hx h.1 v.1
    obtain ⟨ys, e2, o2, l2, d2⟩ := hy h.2.1 v.2.1
    obtain ⟨zs, e5, o3, l3, d3⟩ := hz h.2.2 v.2.2
    have r := rb_tr b
    refine ⟨[.str b.s, .tuple xs, .tuple ys, .tuple zs], by simp only [toD, py, pys, e1, e2, e5], ?_, ?_, ?_⟩
    · have a1 : rbOk (.tuple xs) = true := by simp only [rbOk]; exact o1
      have a2 : rbOk (.tuple ys) = true := by simp only [rbOk]; exact o2
      have a3 : rbOk (.tuple zs) = true := by simp only [rbOk]; exact o3
      simp only [rbOks, r.1, a1, a2, a3]; rfl
    · have e3 : rbLen (.tuple xs) = rbLens xs + 5 := by simp only [rbLen]
      have e4 : rbLen (.tuple ys) = rbLens ys + 5 := by simp only [rbLen]
      have e6 : rbLen (.tuple zs) = rbLens zs + 5 := by simp only [rbLen]
      simp only [rbLens, T.sz, e3, e4, e6]; omega
    · simp only [PyData.depthAll, PyData.depth, T.dp]; omega
def rRepr (K : PySem.W.Frag) : List V → Hp → VK → Prop := fun xs H Q => ∃ x ps, xs = [x] ∧ Dp K H x (.tuple ps) ∧ rbOks ps = true ∧ rbLens ps + 5 ≤ sizeLine ∧ PyData.depthAll ps ≤ 64 ∧ ∀ m : Str, m.length ≤ rbLens ps + 5 → Q (.str m) H
theorem call_reprX {X : Cx} (hu : X.A.units + 66 < cLine) : CallR X (.builtin "repr") (rRepr X.K) := by
  intro pins s σ H xs us Q I r h
  obtain ⟨x, ps, rfl, hd, h1, h2, h3, q⟩ := h
  obtain ⟨u, rfl, rx⟩ := vals1 r
  obtain ⟨as, rd⟩ := Dp.reads I _ x u hd rx
  cases rd with
  | tuple g1 g2 g3 g4 => exact repr_bound (.tuple g1 g2 g3 g4) h1 h2 (by omega) fun m u tk hm => ⟨.str m, H, I.tok tk, ⟨u, rfl⟩, q m hm⟩
@[simp] def dLenR (f : DTe) : DTe := fun ρ π Q => f ρ π fun d π1 => (∃ t : T, d = toD t ∧ t.ok ∧ t.vle 1000 ∧ t.dp ≤ 64 ∧ t.sz ≤ 100000) ∧ ∀ n : Nat, Q (.int n) π1
theorem de_lenR {X : Cx} {C : Addr} {e : Expr} {f : DTe} {p1 p2 q1 q2 : Pos} (hu : X.A.units + 66 < cLine) (hm1 : X.mg "len" = none) (hm2 : X.mg "repr" = none) (ha : DE X C e f) (hg1 : Gl X "len" := by rfl) (hg2 : Gl X "repr" := by rfl) (hv1 : bootBuiltins "len" = some (.builtin "len") := by rfl) (hv2 : bootBuiltins "repr" = some (.builtin "repr") := by rfl)
    (he : starEach [e] X.env = (false, eval e X.env) :: starEach [] X.env := by rfl) (hpl : (backTo q2 (starEach [] X.env)).any (·.1) = false := by rfl)
    (he2 : starEach [.Call (.Name "repr" p2) [e] [] q2] X.env = (false, eval (.Call (.Name "repr" p2) [e] [] q2) X.env) :: starEach [] X.env := by rfl) (hpl2 : (backTo q1 (starEach [] X.env)).any (·.1) = false := by rfl) :
    DE X C (.Call (.Name "len" p1) [.Call (.Name "repr" p2) [e] [] q2] [] q1) (dLenR f) where
  pe := fun F => pe_weak (pe_callB call_len hg1 hm1 hv1 (pa_cons (pe_callB (call_reprX hu) hg2 hm2 hv2 (pa_cons (ha.pe F) pa_nil he) (by decide) (by decide) he hpl) pa_nil he2) (by decide) (by decide) he2 hpl2) fun σ H Q ⟨ρ, π, O, R, q⟩ =>
    ⟨ρ, π, O, R, ha.mono _ _ _ _ (fun d π1 ⟨⟨t, e, h1, h2, h3, h4⟩, q1⟩ v H1 s1 r1 => by
      subst e
      obtain ⟨ps, e, o, l, dd⟩ := rb_toD h1 h2
      have dp := dp_of hide_ex r1 (T.dat h1)
      rw [e] at dp
      have hz : sizeLine = 16777216 := sizeLine_eq
      exact ⟨v, ps, rfl, dp, o, by omega, by omega, fun m hm => ⟨.str m, m.length, rfl, ⟨by omega, rfl⟩, q1 m.length _ H1 s1 (.int _)⟩⟩) q⟩
  mono := fun ρ π Q Q' q h => ha.mono _ _ _ _ (fun d π1 ⟨h1, h2⟩ => ⟨h1, fun n => q _ _ (h2 n)⟩) h
/-! ### text.index(sign), sep.join(list) -/
@[simp] def dIdx (f g : DTe) : DTe := fun ρ π Q => f ρ π fun x π1 => ∃ a, x = .str a ∧ g ρ π1 fun y π2 => ∃ b i rest, y = .str b ∧ Builtin.Str.occurrences a b 0 a.length 1 = i :: rest ∧ Q (.int (i : Nat)) π2
theorem de_idx {X : Cx} {C : Addr} {o e : Expr} {f g : DTe} {apos pos : Pos} (ho : DE X C o f) (he : DE X C e g) (hs : starEach [e] X.env = [(false, eval e X.env)] := by rfl) (hbase : attributeBase o "index" X.env (eval o X.env) = eval o X.env := by rfl) (hline : (apos.endLine == pos.line) = true := by rfl) :
    DE X C (.Call (.Attribute o "index" apos) [e] [] pos) (dIdx f g) where
  pe := fun F => pe_weak (pe_m1 PySem.F.slot_str_index PySem.F.type_str_index mt_sindex (ho.pe F) (he.pe F) hs hbase hline) fun σ H Q ⟨ρ, π, O, R, q⟩ =>
    ⟨ρ, π, O, R, ho.mono _ _ _ _ (fun x π1 ⟨a, ex, q1⟩ v H1 s1 r1 => by
      subst ex
      refine ⟨⟨a, r1.str_iff⟩, ρ, π1, O, R.step s1, he.mono _ _ _ _ (fun y π2 ⟨b, i, rest, ey, hoc, q2⟩ u H2 s2 r2 => ?_) q1⟩
      subst ey
      exact ⟨a, b, i, rest, r1.str_iff, by rw [r2.str_iff], hoc, q2 _ H2 (s1.trans s2) (.int _)⟩) q⟩
  mono := fun ρ π Q Q' q h => ho.mono _ _ _ _ (fun x π1 ⟨a, ex, h1⟩ => ⟨a, ex, he.mono _ _ _ _ (fun y π2 ⟨b, i, rest, ey, hoc, h2⟩ => ⟨b, i, rest, ey, hoc, q _ _ h2⟩) h1⟩) h
@[simp] def dJoin (f g : DTe) : DTe := fun ρ π Q => f ρ π fun x π1 => ∃ a, x = .str a ∧ g ρ π1 fun y π2 => ∃ ys : List Str, y = .lst (ys.map .str) ∧ (ys.map (·.length)).sum + ys.length * a.length ≤ 16777216 ∧ Q (.str (Txt.join a ys)) π2
theorem de_join {X : Cx} {C : Addr} {o e : Expr} {f g : DTe} {apos pos : Pos} (ho : DE X C o f) (he : DE X C e g) (hs : starEach [e] X.env = [(false, eval e X.env)] := by rfl) (hbase : attributeBase o "join" X.env (eval o X.env) = eval o X.env := by rfl) (hline : (apos.endLine == pos.line) = true := by rfl) :
    DE X C (.Call (.Attribute o "join" apos) [e] [] pos) (dJoin f g) where
  pe := fun F => pe_weak (pe_join (ho.pe F) (he.pe F) hs hbase hline) fun σ H Q ⟨ρ, π, O, R, q⟩ =>
    ⟨ρ, π, O, R, ho.mono _ _ _ _ (fun x π1 ⟨a, ex, q1⟩ v H1 s1 r1 => by
      subst ex
      refine ⟨⟨a, r1.str_iff⟩, ρ, π1, O, R.step s1, he.mono _ _ _ _ (fun y π2 ⟨ys, ey, hz, q2⟩ u H2 s2 r2 => ?_) q1⟩
      subst ey
      obtain ⟨p, vs, rfl, h1, r3⟩ := r2.lst_iff
      rw [reps_strs r3] at h1
      exact ⟨a, p, ys, r1.str_iff, rfl, .inl (SqL.of (hide_ex _ _ h1)), hz, q2 _ H2 (s1.trans s2) (.str _)⟩) q⟩
  mono := fun ρ π Q Q' q h => ho.mono _ _ _ _ (fun x π1 ⟨a, ex, h1⟩ => ⟨a, ex, he.mono _ _ _ _ (fun y π2 ⟨ys, ey, hz, h2⟩ => ⟨ys, ey, hz, q _ _ h2⟩) h1⟩) h
end Kp
set_option maxRecDepth 100000
set_option maxHeartbeats 4000000
/-! Dl14: a comprehension with a test; a loop whose turns each make a purse -/
namespace Kp
open PySem PySem.Spec L2
/-! ### a comprehension with a test -/
def lcI (T : Tgt) (t : DTt) (f : DTe) (ρ : DEnv) : List D → List D → Pu → (List D → Pu → Prop) → Prop
  | [], acc, π, Q => Q acc π
  | d :: r, acc, π, Q => acc.length < 1000000 ∧ stD T d ρ fun ρ' => t ρ' π fun b π1 => if b = true then f ρ' π1 fun e π2 => lcI T t f ρ r (acc ++ [e]) π2 Q else lcI T t f ρ r acc π1 Q
@[simp] def dLcI (wi : DTa) (T : Tgt) (t : DTt) (f : DTe) (vs : List Nat) : DTa := fun ρ π Q => wi ρ π fun ds π1 => lcI T t f (wipeD ρ vs) ds [] π1 Q
section
variable {X : Cx} {C : Addr} {e elt tg iter tst : Expr} {t : DTt} {f : DTe} {wi : DTa} {T : Tgt} {pos : Pos}
theorem lcI_mono (mt : ∀ ρ π Q Q', (∀ d π', Q d π' → Q' d π') → t ρ π Q → t ρ π Q') (mf : ∀ ρ π Q Q', (∀ d π', Q d π' → Q' d π') → f ρ π Q → f ρ π Q') {ρ : DEnv} : ∀ {ds acc : List D} {π : Pu} {Q Q' : List D → Pu → Prop}, (∀ d π', Q d π' → Q' d π') → lcI T t f ρ ds acc π Q → lcI T t f ρ ds acc π Q'
  | [], _, _, _, _, q, h => q _ _ h
  | d :: r, acc, π, Q, Q', q, h => ⟨h.1, stD_mono (fun ρ' z => mt _ _ _ _ (fun b π1 z0 => by
    cases b with
    | true => exact mf _ _ _ _ (fun e π1 z1 => lcI_mono mt mf q z1) z0
    | false => exact lcI_mono mt mf q z0) z) h.2⟩
theorem lcI_to {K : PySem.W.Frag} {F : Fr} {own : List (Str × Nat)} {σ : St} {H : Hp} {Q : VK} (mw : ∀ ρ π Q Q', (∀ d π', Q d π' → Q' d π') → wi ρ π Q → wi ρ π Q') (mt : ∀ ρ π Q Q', (∀ d π', Q d π' → Q' d π') → t ρ π Q → t ρ π Q') (mf : ∀ ρ π Q Q', (∀ d π', Q d π' → Q' d π') → f ρ π Q → f ρ π Q') (hT : ∀ i ∈ T.slots, i ∈ own.map (·.2))
    (q : tL K C F (dLcI wi T t f (own.map (·.2))) σ H Q) : tLc (tI K C F wi) (tgR K T) (tT K C F t) (tE K C F f) (own.map (·.2)) σ H Q := by
  obtain ⟨ρ, π, O, R, q⟩ := q
  refine ⟨ρ, π, O, R, mw _ _ _ _ (fun ds π1 q1 J H1 s1 w1 D hD => ?_) q⟩
  have R1 := R.step s1
  have hD0 : H D = none := R.back s1 hD
  let Inv' : Nat → Hp → Prop := fun i Hc => ∃ acc accD π2, Hc D = some (.lst acc) ∧ Reps K C (hide (D :: O) Hc) acc accD ∧ Stp π1 π2 H1 Hc ∧ lcI T t f (wipeD ρ (own.map (·.2))) (ds.drop i) accD π2 fun ds' π' => ∀ p vs H', Stp π π' H H' → H p = none → H' p = some (.lst vs) → Reps K C (hide (p :: O) H') vs ds' → Q (.ref p) H'
  refine ⟨fun i m Hc => m = ds.length - i ∧ i ≤ ds.length ∧ Inv' i Hc, ⟨ds.length, by simp, Nat.zero_le _, [], [], π1, upd_same, .nil, R1.ex_stp (Ex.new hD), q1⟩, ?_⟩
  rintro i m Hc ⟨rfl, hle, acc, accD, π2, hDc, rD, sD, z⟩
  obtain ⟨ex1, R2⟩ := R1.addO sD hD hDc rD
  by_cases hlt : i < ds.length
  · refine .inr ⟨w1.goes i (D :: O) Hc ex1 hlt, Inv' (i + 1), fun H' n => ⟨ds.length - (i + 1), by omega, rfl, hlt, n⟩, fun x H' y => ?_⟩
    obtain ⟨ex2, d, hd, rd⟩ := w1.yields i (D :: O) Hc x H' R2.dom ex1 hlt y
    have hdrop : ds.drop i = d :: ds.drop (i + 1) := by
      obtain ⟨h1, h2⟩ := List.getElem?_eq_some_iff.mp hd
      rw [List.drop_eq_getElem_cons h1, h2]
    rw [hdrop] at z
    obtain ⟨hlen, z⟩ := z
    have R3 : RS K C F (D :: O) H' (L2.wipe σ (own.map (·.2))) (wipeD ρ (own.map (·.2))) π2 := (R2.grow ex2).wipe (by rw [wipeD_length, L2.wipe_length]; exact R.len) fun j s h n => by
      obtain ⟨h1, h2⟩ := wipeD_some h n
      exact ⟨h1, by rw [wipe_get, if_neg h2]⟩
    refine tg_run R3 rd z fun ρ' σ' z' R4 ⟨ys, eσ⟩ => ⟨by rw [eσ, wipe_sets hT, wipe_wipe], ?_⟩
    refine ⟨ρ', π2, D :: O, R4, mt _ _ _ _ (fun b π3 z2 H3 s3 => ?_) z'⟩
    have nDp : ∀ {π' : Pu} {Hc' : Hp}, Stp π1 π' H1 Hc' → ∀ a l, π' = some (a, l) → D ≠ a := fun s a l e z3 => by
      have h1 := (R1.step s).pu a l e
      exact R1.fresh hD (z3 ▸ h1.1)
    have s0 : Stp π1 π2 H1 H' := sD.trans (R2.ex_stp ex2)
    have hD3 : H3 D = some (.lst acc) := s3.keep D _ (ex2 D _ hDc) (nDp s0)
    have s5 : Stp π1 π3 H1 H3 := s0.trans s3
    have R5 := R4.step s3
    have r3 : Reps K C (hide (D :: O) H3) acc accD := rD.mono ((hide_mono ex2).trans (R4.hide_stp s3))
    cases b with
    | false => exact ⟨acc, accD, π3, hD3, r3, s5, z2⟩
    | true =>
      show tE K C F f σ' H3 (fun y H4 => ∃ acc, H4 D = some (HO.lst acc) ∧ acc.length < sizeLine ∧ Inv' (i + 1) (upd H4 D (HO.lst (acc ++ [y]))))
      refine ⟨ρ', π3, D :: O, R5, mf _ _ _ _ (fun e π4 z3 v H4 s4 r4 => ?_) z2⟩
      have hD4 : H4 D = some (.lst acc) := s4.keep D _ hD3 (nDp s5)
      have s6 : Stp π1 π4 H1 H4 := s5.trans s4
      have ex4 : Ex (hide (D :: O) H4) (hide (D :: O) (upd H4 D (.lst (acc ++ [v])))) := fun b o hb => by
        obtain ⟨g1, g2⟩ := hide_some hb
        have ne : b ≠ D := fun e => g1 (e ▸ List.mem_cons_self)
        rw [hide_out g1, upd_ne ne]; exact g2
      refine ⟨acc, hD4, big_lt (by rw [rD.length]; exact hlen), acc ++ [v], accD ++ [e], π4, upd_same, ?_, ?_, z3⟩
      · exact ((r3.mono (R5.hide_stp s4)).append (.cons r4 .nil)).mono ex4
      · constructor
        · intro b o hb hn
          rw [upd_ne (ne_of_none hb hD)]
          exact s6.keep b o hb hn
        · intro a l e
          obtain ⟨l', e1, e2⟩ := s6.pu a l e
          refine ⟨l', e1, ?_⟩
          have ne : a ≠ D := ne_of_none (R1.pu a l e).2.1 hD
          rw [upd_ne ne]; exact e2
        · exact s6.no
  · have ei : i = ds.length := by omega
    subst ei
    refine .inl ⟨w1.stops (D :: O) Hc ex1, ?_⟩
    rw [List.drop_length] at z
    exact z D acc Hc (s1.trans sD) hD0 hDc rD
theorem ds_setLcI {i : Nat} {y : Str} {py spos : Pos} {scope : Scope} {own : List (Str × Nat)} (hc : X.calm = true) (hN : X.N.Nodup) (hi : DI X C tg iter wi) (ok : BlkOk X.N X.env.scope scope own) (hT : ∀ i ∈ T.slots, i ∈ own.map (·.2))
    (hg : ∀ (s : Shared) (H : Hp) (C' : Addr) (cl : List (Str × Addr)) (fp : List Addr), DG (X.blk s H scope (compEnvC scope cl C' X.env) fp) tg T)
    (ht : ∀ (s : Shared) (H : Hp) (C' : Addr) (cl : List (Str × Addr)) (fp : List Addr), DT (X.blk s H scope (compEnvC scope cl C' X.env) fp) C tst t)
    (he : ∀ (s : Shared) (H : Hp) (C' : Addr) (cl : List (Str × Addr)) (fp : List Addr), DE (X.blk s H scope (compEnvC scope cl C' X.env) fp) C elt f)
    (hsw : swapsWith (.ListComp elt [⟨tg, iter, [tst], 0⟩] scope pos) (some (.Name y py)) spos.line X.env = pure true) (hy : X.N[i]? = some y := by rfl) (hyl : X.env.scope.names.lookup y = some .local := by rfl) (hs : ∀ x, foldedSetIterable iter X.env x = pure x := by intro _; rfl) :
    DS X C (.Assign [.Name y py] (.ListComp elt [⟨tg, iter, [tst], 0⟩] scope pos) spos) (dSetL (dLcI wi T t f (own.map (·.2))) i) where
  ps := fun F => ps_weak (ps_setLc (te := tE X.K C F f) (g := tgR X.K T) hc hN hy hyl hsw (hi.pi F) ok (fun s H C' cl fp => (hg s H C' cl fp).pg) (fun s H C' cl fp => pts_one ((ht s H C' cl fp).pt F)) (fun s H C' cl fp => (he s H C' cl fp).pe F) hs) fun A σ H ⟨ρ, π, O, R, q⟩ => by
    refine lcI_to (C := C) (F := F) hi.mono (ht X.s_0 X.H_0 0 [] []).mono (he X.s_0 X.H_0 0 [] []).mono hT ?_
    refine ⟨ρ, π, O, R, hi.mono _ _ _ _ (fun ds π1 h1 => lcI_mono (ht X.s_0 X.H_0 0 [] []).mono (he X.s_0 X.H_0 0 [] []).mono (fun es π2 h2 p vs H1 s1 hp h1 r1 => ?_) h1) q⟩
    have np : p ∉ O := R.fresh hp
    exact h2 _ H1 O (R.hide_stp s1) ((R.step s1).set (.lst (by rw [hide_out np]; exact h1) (r1.mono (hide_sub fun a ha => List.mem_cons_of_mem _ ha))))
  mono := fun A B l ρ π q => hi.mono _ _ _ _ (fun ds π1 h1 => lcI_mono (ht X.s_0 X.H_0 0 [] []).mono (he X.s_0 X.H_0 0 [] []).mono (fun es π2 z => l.nx _ _ z) h1) q
end
/-! ### a loop whose turns each make a purse -/
theorem RS.drop {K : PySem.W.Frag} {C : Addr} {F : Fr} {O : List Addr} {H : Hp} {σ : St} {ρ : DEnv} {π : Pu} (h0 : F.pa = none) (R : RS K C F O H σ ρ π) : RS K C F O H σ ρ none where
  pres := R.pres
  dom := R.dom
  sub := R.sub
  pu := fun _ _ h => nomatch h
  pu0 := fun a h => by rw [h0] at h; cases h
  sl := R.sl
  ow := fun i ds h => by
    obtain ⟨p, vs, h1, h2, h3, h4, h5, _⟩ := R.ow i ds h
    exact ⟨p, vs, h1, h2, h3, h4, h5, fun _ _ h => nomatch h⟩
  dis := R.dis
  len := R.len
theorem RS.pa0 {K : PySem.W.Frag} {C : Addr} {F : Fr} {O : List Addr} {H : Hp} {σ : St} {ρ : DEnv} (R : RS K C F O H σ ρ none) : F.pa = none := by
  cases z : F.pa with
  | none => rfl
  | some a =>
    obtain ⟨l', e'⟩ := R.pu0 a z
    cases e'
def foN (T : Tgt) (g : DTs) (A : DEnds) : List D → DEnv → Prop
  | [] => fun ρ => A.nx ρ none
  | d :: r => fun ρ => stD T d ρ fun ρ' => g { nx := fun ρ2 _ => foN T g A r ρ2, ct := fun ρ2 _ => foN T g A r ρ2, bk := fun _ _ => False, rt := A.rt } ρ' none
theorem foN_mono {T : Tgt} {g : DTs} (mg : ∀ A B : DEnds, A.le B → ∀ ρ π, g A ρ π → g B ρ π) {A B : DEnds} (l : A.le B) : ∀ {ds : List D} {ρ : DEnv}, foN T g A ds ρ → foN T g B ds ρ
  | [], _, q => l.nx _ _ q
  | d :: r, ρ, q => stD_mono (fun ρ' z => mg { nx := fun ρ2 _ => foN T g A r ρ2, ct := fun ρ2 _ => foN T g A r ρ2, bk := fun _ _ => False, rt := A.rt } { nx := fun ρ2 _ => foN T g B r ρ2, ct := fun ρ2 _ => foN T g B r ρ2, bk := fun _ _ => False, rt := B.rt } ⟨fun _ _ w => foN_mono mg l w, l.rt, fun _ _ w => w, fun _ _ w => foN_mono mg l w⟩ _ _ z) q
def dForN (wi : DTa) (T : Tgt) (g : DTs) : DTs := fun A ρ π => π = none ∧ wi ρ none fun ds π1 => π1 = none ∧ foN T g A ds ρ
section
variable {X : Cx} {C : Addr} {tg iter : Expr} {a : List Stmt} {g : DTs} {pos : Pos}
theorem ds_forN {wi : DTa} {T : Tgt} (hi : DI X C tg iter wi) (hg : DG X tg T) (hb : DSs X C a g) (hc : X.calm = true := by rfl) (hp : PassesOwn (model X.prog X.w) X.A X.env X.xe := by exact PassesOwn.never) (hs : ∀ x, foldedSetIterable iter X.env x = pure x := by intro _; rfl) :
    DS X C (.For tg iter a [] pos) (dForN wi T g) where
  ps := fun F => ps_weak (ps_for hp hc (hi.pi F) hg.pg (hb.ps F) hs) fun A σ H ⟨ρ, π, O, R, hπ, q⟩ => by
    subst hπ
    have h0 := R.pa0
    refine ⟨ρ, none, O, R, hi.mono _ _ _ _ (fun ds π1 ⟨hπ1, q1⟩ J H1 s1 w1 => ?_) q⟩
    subst hπ1
    have R1 := R.step s1
    let Inv' : Nat → St → Hp → Prop := fun i σ' H' => ∃ ρ' O', RS X.K C F O' H' σ' ρ' none ∧ Ex (hide O H1) (hide O' H') ∧ foN T g (dEnds X.K C F O H A) (ds.drop i) ρ'
    refine ⟨fun i m σ' H' => m = ds.length - i ∧ i ≤ ds.length ∧ Inv' i σ' H', ⟨ds.length, by simp, Nat.zero_le _, ρ, O, R1, Ex.refl _, q1⟩, ?_⟩
    rintro i m σ' H' ⟨rfl, hle, ρ', O', R', ex, w⟩
    by_cases hlt : i < ds.length
    · refine .inr ⟨w1.goes i O' H' ex hlt, Inv' (i + 1), fun σ2 H2 n => ⟨ds.length - (i + 1), by omega, rfl, hlt, n⟩, fun x H2 y => ?_⟩
      obtain ⟨ex2, d, hd, rd⟩ := w1.yields i O' H' x H2 R'.dom ex hlt y
      have hdrop : ds.drop i = d :: ds.drop (i + 1) := by
        obtain ⟨h1, h2⟩ := List.getElem?_eq_some_iff.mp hd
        rw [List.drop_eq_getElem_cons h1, h2]
      rw [hdrop] at w
      have ex3 : Ex (hide O H1) (hide O' H2) := ex.trans (hide_mono ex2)
      have ex4 : Ex (hide O H) (hide O' H2) := (R.hide_stp s1).trans ex3
      refine tg_run (R'.grow ex2) rd w fun ρ2 σ2 z R2 _ => ⟨ρ2, none, O', R2, hb.mono _ _ ⟨?_, ?_, ?_, ?_⟩ _ _ z⟩
      · exact fun ρ3 π3 z σ3 H3 O3 e3 R3 => ⟨ρ3, O3, R3.drop h0, ex3.trans e3, z⟩
      · exact fun d π3 z v H3 O3 σ3 ρ3 e3 R3 r3 => z v H3 O3 σ3 ρ3 (ex4.trans e3) R3 r3
      · exact fun ρ3 π3 z => z.elim
      · exact fun ρ3 π3 z σ3 H3 O3 e3 R3 => ⟨ρ3, O3, R3.drop h0, ex3.trans e3, z⟩
    · have ei : i = ds.length := by omega
      subst ei
      refine .inl ⟨w1.stops O' H' ex, ?_⟩
      rw [List.drop_length] at w
      exact w σ' H' O' ((R.hide_stp s1).trans ex) R'
  mono := fun A B l ρ π ⟨e, q⟩ => ⟨e, hi.mono _ _ _ _ (fun ds π1 ⟨e1, z⟩ => ⟨e1, foN_mono hb.mono l z⟩) q⟩
end
/-! ### step lemmas -/
section
variable {A : DEnds} {ρ : DEnv} {π : Pu} {t : DTt} {f : DTe} {Q : D → Pu → Prop} {QL : List D → Pu → Prop} {T : Tgt} {i : Nat} {d : D}
theorem x_lcI {wi : DTa} {vs : List Nat} (q : wi ρ π fun ds π1 => lcI T t f (wipeD ρ vs) ds [] π1 QL) : dLcI wi T t f vs ρ π QL := q
theorem x_lenR {u : Kp.T} (h1 : u.ok) (h2 : u.vle 1000) (h3 : u.dp ≤ 64) (h4 : u.sz ≤ 100000) (m : ∀ ρ π Q Q', (∀ d π', Q d π' → Q' d π') → f ρ π Q → f ρ π Q') (q : f ρ π fun d π1 => d = toD u ∧ ∀ n : Nat, Q (.int n) π1) : dLenR f ρ π Q :=
  m _ _ _ _ (fun d π1 ⟨e, h⟩ => ⟨⟨u, e, h1, h2, h3, h4⟩, h⟩) q
/-- a comprehension's turns, by an invariant -/
theorem lcD_inv {T : Tgt} {f : DTe} {ρ : DEnv} {QL : List D → Pu → Prop} (I : List D → List D → Pu → Prop) (h0 : ∀ acc π, I [] acc π → QL acc π)
    (hs : ∀ d r acc π (B : List D → Pu → Prop), I (d :: r) acc π → (∀ acc' π', I r acc' π' → B acc' π') → acc.length < 1000000 ∧ stD T d ρ fun ρ' => f ρ' π fun e π1 => B (acc ++ [e]) π1) : ∀ {ds acc : List D} {π : Pu}, I ds acc π → lcD T f ρ ds acc π QL
  | [], acc, π, h => h0 acc π h
  | d :: r, acc, π, h => hs d r acc π (fun acc' π' => lcD T f ρ r acc' π' QL) h fun acc' π' h' => lcD_inv I h0 hs h'
theorem lcI_inv {T : Tgt} {t : DTt} {f : DTe} {ρ : DEnv} {QL : List D → Pu → Prop} (I : List D → List D → Pu → Prop) (h0 : ∀ acc π, I [] acc π → QL acc π)
    (hs : ∀ d r acc π (B : List D → Pu → Prop), I (d :: r) acc π → (∀ acc' π', I r acc' π' → B acc' π') → acc.length < 1000000 ∧ stD T d ρ fun ρ' => t ρ' π fun b π1 => if b = true then f ρ' π1 fun e π2 => B (acc ++ [e]) π2 else B acc π1) : ∀ {ds acc : List D} {π : Pu}, I ds acc π → lcI T t f ρ ds acc π QL
  | [], acc, π, h => h0 acc π h
  | d :: r, acc, π, h => hs d r acc π (fun acc' π' => lcI T t f ρ r acc' π' QL) h fun acc' π' h' => lcI_inv I h0 hs h'
end
end Kp
set_option maxRecDepth 100000
set_option maxHeartbeats 4000000
/-! A22: the purse -/
namespace Kp
open PySem PySem.Spec L2
/-- a purse that n takes at most have seen -/
def PuOk (n : Nat) (a : Addr) (π : Pu) : Prop := ∃ x y z : Int, π = some (a, [x, y, z]) ∧ 0 ≤ x ∧ (0 ≤ y ∧ y < 2147483629) ∧ 0 ≤ z ∧ z ≤ n
def sp_take : SpecD := fun ds π Q => ∃ (a : Addr) (n : Nat) (m : Int), ds = [.adr a, .int m] ∧ PuOk n a π ∧ n ≤ 1000000000 ∧ (0 < m ∧ m < 1073741824) ∧ ∀ r π', 0 ≤ r → r < m → PuOk (n + 1) a π' → Q (.int r) π'
section
variable {P : Program} {w : World} {K : PySem.W.Frag} {mg : Str → Option Value} {base : Heap}
theorem sc_law_take : FnScope ["_law_purse_here", "_law_many", "_law_digit", "_law_one", "_law_other"] ["_law_purse_here", "_law_many"] d_law_take.scope := ⟨rfl, rfl, rfl, by decide +kernel, rfl, by decide +kernel, by decide +kernel⟩
theorem F_take (Z : Tx P w K mg base) : Fn P w K mg base (GC K) "_law_take" 1 [] sp_take := by
  refine fn_m0 Z (k := 0) 47 rfl rfl rfl rfl sc_law_take (by decide) (fun _ _ _ _ _ _ us hl => match us, hl with | [_, _], _ => rfl) ?hl ?hm (fun f cdv A outer s H E hr => by
    have sc := sc_law_take
    exact (dss_cons (ds_if (dt_cmp op_gt d2_gt (de_pix 0) de_int (nomark _)) (dss_cons (ds_set (i := 2) sc.nd (de_bin op_mod d2_modI (de_pix 0) (de_var 1))) (dss_cons (ds_pset 0 (de_bin op_fdiv d2_divI (de_pix 0) (de_var 1))) (dss_one (ds_ret (de_var 2))))) dss_nil) (dss_cons (ds_pset 0 (de_bin op_add d2_addI (de_pix 0) de_int)) (dss_cons (ds_set (i := 3) sc.nd (de_bin op_mod d2_modI (de_bin op_pow d2_powI (de_bin op_add d2_addI (de_bin op_add d2_addI (de_pix 0) (de_bin op_mul d2_mulI de_int (de_pix 0))) de_int) de_int) de_int)) (dss_cons (ds_set (i := 4) sc.nd (de_bin op_mod d2_modI (de_bin op_pow d2_powI (de_bin op_add d2_addI (de_bin op_mul d2_mulI (de_pix 0) (de_pix 0)) de_int) de_int) de_int)) (dss_one (ds_ret (de_bin op_mod d2_modI (de_bin op_fdiv d2_divI (de_bin op_add d2_addI (de_bin op_mul d2_mulI (de_var 3) de_int) (de_var 4)) de_int) (de_var 1))))))))) ?hg
  case hl =>
    rintro ds π Q ⟨a, n, m, e, _⟩
    rw [e]; rfl
  case hm =>
    rintro ds π Q Q' q ⟨a, n, m, e, h1, h2, h3, h4⟩
    exact ⟨a, n, m, e, h1, h2, h3, fun r π' g1 g2 g3 => q _ _ (h4 r π' g1 g2 g3)⟩
  rintro ds π Q ⟨a, n, m, e, ⟨x, y, z, e2, h1, ⟨h2, h3⟩, h4, h5⟩, h6, ⟨h7, h8⟩, h9⟩
  subst e e2
  walk_at "kpn"
  by_cases hx : 0 < x
  · refine x_if_t (by simpa using hx) ?_
    walk_at "kpn"
    refine x_I h7 ?_
    walk_at "kpn"
    refine x_I ⟨h7, h8⟩ ?_
    refine ⟨a, _, _, 0, rfl, rfl, rfl, rfl, ?_⟩
    walk_at "kpn"
    refine h9 _ _ (Int.emod_nonneg _ (by omega)) (Int.emod_lt_of_pos _ h7) ⟨x / m, y, z, rfl, Int.ediv_nonneg h1 (by omega), ⟨h2, h3⟩, h4, by omega⟩
  · refine x_if_f (by simpa using hx) ?_
    walk_at "kpn"
    refine ⟨a, _, _, 2, rfl, rfl, rfl, rfl, ?_⟩
    walk_at "kpn"
    have q1 : 0 ≤ y * (z + 1) := Int.mul_nonneg h2 (by omega)
    have q2 : y * (z + 1) ≤ 2147483629 * 1000000001 := Int.mul_le_mul (by omega) (by omega) (by omega) (by decide)
    refine x_I (Or.inl ⟨by decide, by decide⟩) ?_
    walk_at "kpn"
    refine x_I ⟨by decide, by decide, by omega⟩ ?_
    walk_at "kpn"
    refine x_I (by decide) ?_
    walk_at "kpn"
    refine x_I (Or.inl ⟨by omega, by omega⟩) ?_
    walk_at "kpn"
    refine x_I ⟨by decide, by decide, by omega⟩ ?_
    walk_at "kpn"
    refine x_I (by decide) ?_
    walk_at "kpn"
    refine x_I (Or.inr ⟨by decide, by decide⟩) ?_
    walk_at "kpn"
    refine x_I ⟨by decide, by decide⟩ ?_
    walk_at "kpn"
    refine x_I h7 ?_
    walk_at "kpn"
    refine h9 _ _ (Int.emod_nonneg _ (by omega)) (Int.emod_lt_of_pos _ h7) ⟨x, y, z + 1, rfl, h1, ⟨h2, h3⟩, by omega, by omega⟩
end
end Kp
set_option maxRecDepth 100000
set_option maxHeartbeats 4000000
/-! A23: a new purse -/
namespace Kp
open PySem PySem.Spec L2
section
variable {P : Program} {w : World} {K : PySem.W.Frag} {mg : Str → Option Value} {base : Heap}
def pu0 (c : Int) : List Int := [if c - 10 ^ 18 > 0 then c - 10 ^ 18 else 0, c % 2147483629, 0]
theorem sc_law_purse : FnScope ["_law_cell_here"] ["_law_cell_here"] d_law_purse.scope := ⟨rfl, rfl, rfl, by decide +kernel, rfl, by decide +kernel, by decide +kernel⟩
theorem F_law_purse (Z : Tx P w K mg base) : FnL P w K mg base (GC K) "_law_purse" 1 (spL (fun c : Int => [.int c]) (fun _ => True) fun c => (pu0 c).map .int) := by
  refine fn_l Z (k := 0) 46 rfl rfl rfl rfl rfl sc_law_purse (by decide) (fun _ _ _ _ _ _ us hl => match us, hl with | [_], _ => rfl) (fun _ => rfl) (fun f cdv A outer s H E hr => by
    have sc := sc_law_purse
    exact (dl_lst (da_cons (de_callB (call_max2 rfl) dc_max rfl Z.f_max rfl (da_cons de_int (da_cons (de_bin op_sub d2_subI (de_var 0) (de_bin op_pow d2_powI de_int de_int)) da_nil))) (da_cons (de_bin op_mod d2_modI (de_var 0) de_int) (da_cons de_int da_nil))))) ?hg
  rintro c π Q hp q
  simp [and_assoc]
  refine ⟨⟨by decide, by decide, by decide⟩, ?_⟩
  have e : (pu0 c).map D.int = [D.int (if 1000000000000000000 < c then c - 1000000000000000000 else 0), D.int (c % 2147483629), D.int 0] := by simp [pu0]
  rw [← e]; exact q
theorem pu0_ok (c : Int) (a : Addr) : PuOk 0 a (some (a, pu0 c)) := by
  refine ⟨_, _, _, rfl, ?_, ⟨Int.emod_nonneg _ (by decide), Int.emod_lt_of_pos _ (by decide)⟩, Int.le_refl _, Int.le_refl _⟩
  split <;> omega
end
end Kp
set_option maxRecDepth 100000
set_option maxHeartbeats 4000000
/-! Dl15: steps of the law's defs -/
namespace Kp
open PySem PySem.Spec L2
theorem L2Room66 {k : Nat} {A : Around} (r : Room k A) : A.units + 66 < cLine := by have := r.un; omega
theorem PuOk.up {n m : Nat} {a : Addr} {π : Pu} (h : PuOk n a π) (l : n ≤ m) : PuOk m a π := by
  obtain ⟨x, y, z, h1, h2, h3, h4, h5⟩ := h
  exact ⟨x, y, z, h1, h2, h3, h4, by omega⟩
theorem x_take {a : Addr} {n : Nat} {m : Int} {π : Pu} {Q : D → Pu → Prop} (hp : PuOk n a π) (hn : n ≤ 1000000000) (h1 : 0 < m ∧ m < 1073741824) (q : ∀ r π', 0 ≤ r → r < m → PuOk (n + 1) a π' → Q (.int r) π') : sp_take ([.adr a, .int m] ++ []) π Q :=
  ⟨a, n, m, rfl, hp, hn, h1, q⟩
theorem x_lc0 {T : Tgt} {f : DTe} {ρ : DEnv} {acc : List D} {π : Pu} {Q : List D → Pu → Prop} (q : Q acc π) : lcD T f ρ [] acc π Q := q
theorem x_lc1 {T : Tgt} {f : DTe} {ρ : DEnv} {d : D} {r acc : List D} {π : Pu} {Q : List D → Pu → Prop} (l : acc.length < 1000000) (q : stD T d ρ fun ρ' => f ρ' π fun e π1 => lcD T f ρ r (acc ++ [e]) π1 Q) : lcD T f ρ (d :: r) acc π Q := ⟨l, q⟩
theorem x_lcN {T : Tgt} {f : DTe} {ρ ρ' : DEnv} {wi : DTa} {vs : List Nat} {π : Pu} {QL : List D → Pu → Prop} (e : wipeD ρ vs = ρ') (q : wi ρ π fun ds π1 => lcD T f ρ' ds [] π1 QL) : dLc wi T f vs ρ π QL := by subst e; exact q
theorem x_lcIN {T : Tgt} {t : DTt} {f : DTe} {ρ ρ' : DEnv} {wi : DTa} {vs : List Nat} {π : Pu} {QL : List D → Pu → Prop} (e : wipeD ρ vs = ρ') (q : wi ρ π fun ds π1 => lcI T t f ρ' ds [] π1 QL) : dLcI wi T t f vs ρ π QL := by subst e; exact q
theorem x_idx {f g : DTe} {ρ : DEnv} {π : Pu} {Q : D → Pu → Prop} (q : f ρ π fun x π1 => ∃ a, x = .str a ∧ g ρ π1 fun y π2 => ∃ b i rest, y = .str b ∧ Builtin.Str.occurrences a b 0 a.length 1 = i :: rest ∧ Q (.int (i : Nat)) π2) : dIdx f g ρ π Q := q
theorem x_join {f g : DTe} {ρ : DEnv} {π : Pu} {Q : D → Pu → Prop} (q : f ρ π fun x π1 => ∃ a, x = .str a ∧ g ρ π1 fun y π2 => ∃ ys : List Str, y = .lst (ys.map .str) ∧ (ys.map (·.length)).sum + ys.length * a.length ≤ 16777216 ∧ Q (.str (Txt.join a ys)) π2) : dJoin f g ρ π Q := q
def cS : Nat → Nat
  | 0 => 1
  | l + 1 => 2 * cS l + 1
theorem cut7 (N : Nm) : cutD (N.all.map D.str) none (some 7) = [.str N.num, .str N.bit, .str N.none, .str N.both, .str N.either, .str N.line, .str N.tree] := cutD_to _ 7
end Kp
namespace L2
theorem Room.units66 {k : Nat} {A : PySem.Around} (r : Room k A) : A.units + 66 < PySem.cLine := Kp.L2Room66 r
end L2
set_option maxRecDepth 100000
set_option maxHeartbeats 8000000
local macro_rules | `(tactic| walk_at "kpm") => `(tactic| repeat (first | (apply_rules (transparency := .reducible) (exfalso := false) (symm := false) (maxDepth := 1000) only [Kp.x_next, Kp.x_ert, Kp.x_enx, Kp.x_ret, Kp.x_drop, Kp.x_asg, Kp.x_par, Kp.x_ifS, Kp.x_for, Kp.x_own, Kp.x_setL, Kp.x_c, Kp.x_nil, Kp.x_cons, Kp.x_tup, Kp.x_lst, Kp.x_bin, Kp.x_tst, Kp.x_exb, Kp.x_exi, Kp.x_exs, Kp.x_exl, Kp.x_ext2, Kp.x_1l, Kp.x_1t, Kp.x_1i, Kp.x_2i, Kp.x_ex1, Kp.x_ex2, Kp.x_and, Kp.x_or, Kp.x_not, Kp.x_if, Kp.x_ifL, Kp.x_andV, Kp.x_orV, Kp.x_notV, Kp.x_isi2, Kp.x_call, Kp.x_nop, Kp.x_part, Kp.x_sl, Kp.x_ownF, Kp.x_ownL, Kp.x_asL, Kp.x_seL, Kp.x_seT, Kp.x_enL, Kp.x_enT, Kp.x_rng1, Kp.x_rng2, Kp.x_pset, Kp.x_meth, Kp.x_gnd, Kp.x_I0, Kp.x_eqI, Kp.x_eqS, Kp.x_isN, Kp.x_inT, Kp.x_in2, Kp.x_in5, Kp.x_slT, Kp.x_slL, Kp.x_int, Kp.x_listT, Kp.x_listL, Kp.x_tuple, Kp.x_max, Kp.x_min, Kp.x_rep0, Kp.x_rep2, Kp.x_lc0, Kp.x_idx, Kp.x_join]) | (with_reducible apply Kp.x_oneN; focus (first | dsimp only [Kp.d0, Kp.setsD, Kp.wipeD, List.set, List.map, List.replicate, List.length, List.append, HAppend.hAppend, Append.append, Nat.reduceAdd, Nat.reduceSub] | rfl)) | (with_reducible apply Kp.x_seqN; focus (first | dsimp only [Kp.d0, Kp.setsD, Kp.wipeD, List.set, List.map, List.replicate, List.length, List.append, HAppend.hAppend, Append.append, Nat.reduceAdd, Nat.reduceSub] | rfl)) | (with_reducible apply Kp.x_fo1N; focus (first | dsimp only [Kp.d0, Kp.setsD, Kp.wipeD, List.set, List.map, List.replicate, List.length, List.append, HAppend.hAppend, Append.append, Nat.reduceAdd, Nat.reduceSub] | rfl)) | (with_reducible apply Kp.x_fo0N; focus (first | dsimp only [Kp.d0, Kp.setsD, Kp.wipeD, List.set, List.map, List.replicate, List.length, List.append, HAppend.hAppend, Append.append, Nat.reduceAdd, Nat.reduceSub] | rfl)) | (with_reducible apply Kp.x_lcN; focus (first | dsimp only [Kp.d0, Kp.setsD, Kp.wipeD, List.set, List.map, List.replicate, List.length, List.append, HAppend.hAppend, Append.append, Nat.reduceAdd, Nat.reduceSub] | rfl)) | (with_reducible apply Kp.x_lcIN; focus (first | dsimp only [Kp.d0, Kp.setsD, Kp.wipeD, List.set, List.map, List.replicate, List.length, List.append, HAppend.hAppend, Append.append, Nat.reduceAdd, Nat.reduceSub] | rfl)) | (apply Kp.x_manyN rfl; focus (first | dsimp only [Kp.d0, Kp.setsD, Kp.wipeD, List.set, List.map, List.replicate, List.length, List.append, HAppend.hAppend, Append.append, Nat.reduceAdd, Nat.reduceSub] | rfl)) | (apply Kp.x_manyLN rfl; focus (first | dsimp only [Kp.d0, Kp.setsD, Kp.wipeD, List.set, List.map, List.replicate, List.length, List.append, HAppend.hAppend, Append.append, Nat.reduceAdd, Nat.reduceSub] | rfl)) | refine Kp.x_var rfl ?_ | refine Kp.x_few (Nat.le_of_ble_eq_true rfl) ?_ | refine Kp.x_ixT rfl ?_ | refine Kp.x_ixL rfl ?_ | refine Kp.x_ixD rfl rfl ?_ | refine Kp.x_slD rfl ?_ | refine Kp.x_len rfl (Nat.le_of_ble_eq_true rfl) ?_ | refine Kp.x_lenO rfl (Nat.le_of_ble_eq_true rfl) ?_ | refine Kp.x_pix rfl rfl ?_ | refine Kp.x_catL (Nat.le_of_ble_eq_true rfl) ?_ | refine Kp.x_catT (Nat.le_of_ble_eq_true rfl) ?_ | refine Kp.x_catS (Nat.le_of_ble_eq_true rfl) ?_ | refine Kp.x_app rfl (Nat.lt_of_lt_of_le (Nat.lt_succ_self _) (Nat.le_of_ble_eq_true rfl)) ?_ | refine Kp.x_ext rfl ?_ | refine Kp.x_lc1 (Nat.le_of_ble_eq_true rfl) ?_ | (refine Kp.x_isi ?_ ?_; focus (first | rfl | (simp; done))) | (refine Kp.x_if_t ?_ ?_; focus (first | rfl | (simp; done))) | (refine Kp.x_if_f ?_ ?_; focus (first | rfl | (simp; done)))))
/-! A24: a drawn saying -/
namespace Kp
open PySem PySem.Spec L2
section
variable {P : Program} {w : World} {K : PySem.W.Frag} {mg : Str → Option Value} {base : Heap}
abbrev sp_saying (N : Nm) (m : Nat) : SpecD := fun ds π Q => ∃ (a : Addr) (n l : Nat), ds = [.adr a, nmD N, .int (l : Nat)] ∧ (l < m ∧ l ≤ 2) ∧ PuOk n a π ∧ n + cS l ≤ 1000000000 ∧ ∀ S π', Sy N l S → S.vle l → PuOk (n + cS l) a π' → Q (toD S) π'
theorem PuOk.fix {n : Nat} {a : Addr} {π : Pu} (h : PuOk n a π) (π' : Pu) : fixP π π' = π' := by
  obtain ⟨x, y, z, h1, _⟩ := h
  subst h1; rfl
theorem cS_pos : ∀ l, 1 ≤ cS l
  | 0 => Nat.le_refl _
  | l + 1 => Nat.le_add_left _ _
theorem numT_vle {N : Nm} {B : Int} (h : 1 ≤ B) : ∀ k, (numT N k).vle B
  | 0 => by simp only [numT, T.vle]; omega
  | k + 1 => ⟨h, numT_vle h k⟩
theorem x_saying {N : Nm} {m n l : Nat} {a : Addr} {i : Int} {π : Pu} {Q : D → Pu → Prop} (e : i = (l : Nat)) (h : l < m ∧ l ≤ 2) (hp : PuOk n a π) (hc : n + cS l ≤ 1000000000) (q : ∀ S π', Sy N l S → S.vle l → PuOk (n + cS l) a π' → Q (toD S) π') : sp_saying N m ([.adr a, nmD N, .int i] ++ []) π Q :=
  ⟨a, n, l, by rw [e]; rfl, h, hp, hc, q⟩
theorem sc_law_saying : FnScope ["_law_purse_here", "_law_names_here", "_law_deep", "_law_num", "_law_bit", "_law_none", "_law_both", "_law_either", "_law_line", "_law_tree", "_law_name", "_law_way", "_law_one", "_law_other"] ["_law_purse_here", "_law_names_here", "_law_deep"] d_law_saying.scope := ⟨rfl, rfl, rfl, by decide +kernel, rfl, by decide +kernel, by decide +kernel⟩
theorem F_saying_of (Z : Tx P w K mg base) {N : Nm} (hN : N.Ok) {k m : Nat} (h : Fn P w K mg base (GC K) "_law_saying" (k + 9) [] (sp_saying N m)) : Fn P w K mg base (GC K) "_law_saying" (k + 10) [] (sp_saying N (m + 1)) := by
  refine fn_m0 Z (k := (k+9)) 53 rfl rfl rfl rfl sc_law_saying (by decide) (fun _ _ _ _ _ _ us hl => match us, hl with | [_, _, _], _ => rfl) ?hl ?hm (fun f cdv A outer s H E hr => by
    have sc := sc_law_saying
    exact (dss_cons (ds_asg (DL.de (dl_lc rfl sc.nd (di_list (de_slice (de_var 1) do_none (do_some de_int))) (blkOk_by (N := ["_law_purse_here", "_law_names_here", "_law_deep", "_law_num", "_law_bit", "_law_none", "_law_both", "_law_either", "_law_line", "_law_tree", "_law_name", "_law_way", "_law_one", "_law_other"]) (sc := d_law_saying.scope) (own := [("_law_name", 10)]) (by decide +kernel)) (by decide) (fun _ _ _ _ _ => (dg_name (i := 10) sc.nd)) (fun _ _ _ _ _ => (de_tup (da_cons de_str (da_cons (de_var 10) da_nil)))))) (dg_unl rfl (dgs_cons (i := 3) sc.nd (dgs_cons (i := 4) sc.nd (dgs_cons (i := 5) sc.nd (dgs_cons (i := 6) sc.nd (dgs_cons (i := 7) sc.nd (dgs_cons (i := 8) sc.nd (dgs_cons (i := 9) sc.nd dgs_nil))))))))) (dss_cons (ds_set (i := 11) sc.nd (de_call (F_take Z) (hr.mono (by omega)) (da_cons (de_var 0) (da_cons (de_ix ix_seq d2_ix (de_lst (da_cons de_int (da_cons de_int da_nil))) (de_callTy call_int1 dc_int rfl Z.f_int rfl (da_cons (de_cmp op_gt d2_gt (de_var 2) de_int (nomark _)) da_nil))) da_nil)))) (dss_cons (ds_if (dt_cmp op_lt d2_lt (de_var 11) de_int (nomark _)) (dss_one (ds_ret (de_ix ix_seq d2_ix (de_lst (da_cons (de_var 3) (da_cons (de_var 4) (da_cons (de_var 9) da_nil)))) (de_var 11)))) dss_nil) (dss_cons (ds_if (dt_cmp op_eq d2_eqS (de_var 11) de_int (nomark _)) (dss_one (ds_ret (de_tup (da_cons de_str (da_cons (de_var 8) (da_cons (de_call (h) (hr.mono (by omega)) (da_cons (de_var 0) (da_cons (de_var 1) (da_cons (de_bin op_sub d2_subI (de_var 2) de_int) da_nil)))) da_nil)))))) dss_nil) (dss_cons (ds_if (dt_cmp op_eq d2_eqS (de_var 11) de_int (nomark _)) (dss_one (ds_ret (de_tup (da_cons de_str (da_cons (de_var 3) (da_cons (de_tup (da_cons de_str (da_cons (de_var 3) (da_cons (de_tup (da_cons de_str (da_cons de_int da_nil))) (da_cons (de_tup (da_cons de_str (da_cons de_int da_nil))) da_nil))))) da_nil)))))) dss_nil) (dss_cons (ds_if (dt_cmp op_eq d2_eqS (de_var 11) de_int (nomark _)) (dss_one (ds_ret (de_tup (da_cons de_str (da_cons (de_var 3) (da_cons (de_call (F_law_number Z N) (hr.mono (by omega)) (da_cons (de_var 1) (da_cons de_int da_nil))) (da_cons (de_call (F_law_number Z N) (hr.mono (by omega)) (da_cons (de_var 1) (da_cons de_int da_nil))) da_nil))))))) dss_nil) (dss_cons (ds_par (i := 12) (j := 13) rfl sc.nd (da_cons (de_call (h) (hr.mono (by omega)) (da_cons (de_var 0) (da_cons (de_var 1) (da_cons (de_bin op_sub d2_subI (de_var 2) de_int) da_nil)))) (da_cons (de_call (h) (hr.mono (by omega)) (da_cons (de_var 0) (da_cons (de_var 1) (da_cons (de_bin op_sub d2_subI (de_var 2) de_int) da_nil)))) da_nil))) (dss_cons (ds_if (dt_cmp op_eq d2_eqS (de_var 11) de_int (nomark _)) (dss_one (ds_ret (de_tup (da_cons de_str (da_cons (de_var 12) (da_cons (de_call (F_law_raised Z 7) (hr.mono (by omega)) (da_cons (de_var 13) (da_cons de_int (da_cons de_int da_nil)))) da_nil)))))) dss_nil) (dss_one (ds_ret (de_tup (da_cons de_str (da_cons (de_tup (da_cons de_str (da_cons (de_ix ix_seq d2_ix (de_lst (da_cons (de_var 6) (da_cons (de_var 7) da_nil))) (de_bin op_sub d2_subI (de_var 11) de_int)) (da_cons (de_var 12) da_nil)))) (da_cons (de_var 13) da_nil))))))))))))))) ?hg
  case hl =>
    rintro ds π Q ⟨a, n, l, e, _⟩
    rw [e]; rfl
  case hm =>
    rintro ds π Q Q' q ⟨a, n, l, e, h1, h2, h3, h4⟩
    exact ⟨a, n, l, e, h1, h2, h3, fun S π' g1 g2 g3 => q _ _ (h4 S π' g1 g2 g3)⟩
  rintro ds π Q ⟨a, n, l, e, ⟨h1, h2⟩, hp, hc, q⟩
  subst e
  walk_at "kpm"
  refine x_slL (ds := N.all.map D.str) ?_
  rw [cut7]
  walk_at "kpm"
  have l0 : (0 : Int) ≤ l := Int.natCast_nonneg _
  by_cases hd : (0 : Int) < l
  · refine x_ixL (i := if decide ((0 : Int) < l) = true then 1 else 0) (d := .int 9) (by simp only [decide_eq_true hd, if_true]; rfl) ?_
    walk_at "kpm"
    cases l with
    | zero => exact absurd hd (by decide)
    | succ l =>
    have ec : cS (l + 1) = 2 * cS l + 1 := rfl
    have el : ((l + 1 : Nat) : Int) - 1 = (l : Nat) := by omega
    refine x_take hp (by omega) ⟨by decide, by decide⟩ fun r π1 r0 r1 hp1 => ?_
    rw [ec] at hc q
    have fx := hp.fix
    have n1 : Bd N 2 3 (numT N 1) := bd_numT hN 1
    have hr9 : r = 0 ∨ r = 1 ∨ r = 2 ∨ r = 3 ∨ r = 4 ∨ r = 5 ∨ r = 6 ∨ r = 7 ∨ r = 8 := by omega
    rcases hr9 with rfl | rfl | rfl | rfl | rfl | rfl | rfl | rfl | rfl
    · walk_at "kpm"
      show Q _ (fixP π π1)
      rw [fx]
      exact q (tTh N.num) π1 .num trivial (hp1.up (by omega))
    · walk_at "kpm"
      show Q _ (fixP π π1)
      rw [fx]
      exact q (tTh N.bit) π1 .bit trivial (hp1.up (by omega))
    · walk_at "kpm"
      show Q _ (fixP π π1)
      rw [fx]
      exact q (tTh N.tree) π1 .tree trivial (hp1.up (by omega))
    · walk_at "kpm"
      refine x_saying el ⟨by omega, by omega⟩ hp1 (by omega) fun S π2 hS hv hp2 => ?_
      walk_at "kpm"
      show Q _ (fixP π π2)
      rw [fx]
      exact q (tAp (tTh N.line) S) π2 (.line hS) ⟨trivial, T.vle_up (by omega) hv⟩ (hp2.up (by omega))
    · walk_at "kpm"
      show Q _ (fixP π π1)
      rw [fx]
      exact q (tAl (tTh N.num) (.tri .sm (tTh N.num) (.var 0) (.var 0))) π1 (.all .num (.same (bd_var (Int.le_refl 0) (by omega) (by omega)) nf_var)) ⟨trivial, trivial, by simp only [T.vle]; omega, by simp only [T.vle]; omega⟩ (hp1.up (by omega))
    · walk_at "kpm"
      refine x_f1 1 rfl (by decide) ?_
      walk_at "kpm"
      refine x_f1 1 rfl (by decide) ?_
      walk_at "kpm"
      show Q _ (fixP π π1)
      rw [fx]
      exact q (.tri .sm (tTh N.num) (numT N 1) (numT N 1)) π1 (.same n1 (nf_numT N 1)) ⟨trivial, numT_vle (by omega) 1, numT_vle (by omega) 1⟩ (hp1.up (by omega))
    · walk_at "kpm"
      refine x_saying el ⟨by omega, by omega⟩ hp1 (by omega) fun S π2 hS hv hp2 => ?_
      walk_at "kpm"
      refine x_saying el ⟨by omega, by omega⟩ hp2 (by omega) fun S2 π3 hS2 hv2 hp3 => ?_
      walk_at "kpm"
      refine x_f1 (S2, 1, 0) rfl ⟨(hS2.bd hN (by omega)).dp, Int.zero_le_ofNat 1, (by show (1 : Int) ≤ 1000; decide)⟩ ?_
      walk_at "kpm"
      show Q _ (fixP π π3)
      rw [fx]
      exact q (tAl S (S2.raise 1 0)) π3 (.all hS (hS2.raise 0 (Int.le_refl _))) ⟨T.vle_up (by omega) hv, T.vle_up (by omega) (T.vle_raise (by decide) 0 hv2)⟩ (hp3.up (by omega))
    · walk_at "kpm"
      refine x_saying el ⟨by omega, by omega⟩ hp1 (by omega) fun S π2 hS hv hp2 => ?_
      walk_at "kpm"
      refine x_saying el ⟨by omega, by omega⟩ hp2 (by omega) fun S2 π3 hS2 hv2 hp3 => ?_
      walk_at "kpm"
      show Q _ (fixP π π3)
      rw [fx]
      exact q (tAp (tAp (tTh N.both) S) S2) π3 (.both hS hS2) ⟨⟨trivial, T.vle_up (by omega) hv⟩, T.vle_up (by omega) hv2⟩ (hp3.up (by omega))
    · walk_at "kpm"
      refine x_saying el ⟨by omega, by omega⟩ hp1 (by omega) fun S π2 hS hv hp2 => ?_
      walk_at "kpm"
      refine x_saying el ⟨by omega, by omega⟩ hp2 (by omega) fun S2 π3 hS2 hv2 hp3 => ?_
      walk_at "kpm"
      show Q _ (fixP π π3)
      rw [fx]
      exact q (tAp (tAp (tTh N.either) S) S2) π3 (.either hS hS2) ⟨⟨trivial, T.vle_up (by omega) hv⟩, T.vle_up (by omega) hv2⟩ (hp3.up (by omega))
  · cases l with
    | succ l => exact absurd (by omega) hd
    | zero =>
    refine x_ixL (i := if decide ((0 : Int) < (0 : Nat)) = true then 1 else 0) (d := .int 3) rfl ?_
    walk_at "kpm"
    have ec : cS 0 = 1 := rfl
    refine x_take hp (by omega) ⟨by decide, by decide⟩ fun r π1 r0 r1 hp1 => ?_
    have fx := hp.fix
    have hr3 : r = 0 ∨ r = 1 ∨ r = 2 := by omega
    rcases hr3 with rfl | rfl | rfl
    · walk_at "kpm"
      show Q _ (fixP π π1)
      rw [fx]
      exact q (tTh N.num) π1 .num trivial hp1
    · walk_at "kpm"
      show Q _ (fixP π π1)
      rw [fx]
      exact q (tTh N.bit) π1 .bit trivial hp1
    · walk_at "kpm"
      show Q _ (fixP π π1)
      rw [fx]
      exact q (tTh N.tree) π1 .tree trivial hp1
theorem F_saying (Z : Tx P w K mg base) {N : Nm} (hN : N.Ok) : ∀ m : Nat, Fn P w K mg base (GC K) "_law_saying" (m + 9) [] (sp_saying N m)
  | 0 => by
    refine fn_void Z 53 rfl rfl rfl rfl (ps := ["_law_purse_here", "_law_names_here", "_law_deep"]) (fun _ _ _ _ _ _ us hl => match us, hl with | [_, _, _], _ => rfl) ?_
    rintro ds π Q ⟨a, n, l, e, ⟨h1, h2⟩, q⟩
    omega
  | m + 1 => F_saying_of Z hN (F_saying Z hN m)
end
end Kp
set_option maxRecDepth 100000
set_option maxHeartbeats 2000000
/-! M10: bounds of what is made, by the saying's nesting and by how deep -/
namespace Kp
open PySem PySem.Spec L2
def m0 : Nat → Nat
  | 0 => 43
  | l + 1 => 2 * m0 l + 90
def pd (l k : Nat) : Nat := match k with
  | 0 => 9 + 2 * l
  | 1 => 25
  | _ => 37
def pm (l k : Nat) : Nat := match k with
  | 0 => m0 l
  | 1 => 4796
  | _ => 39628
def pf (l k : Nat) : Nat := match k with
  | 0 => 2 ^ l
  | 1 => 35
  | _ => 283
def md (l k : Nat) : Nat := match k with
  | 0 => 9 + 2 * l
  | 1 => 15
  | _ => 27
def mm (l k : Nat) : Nat := match k with
  | 0 => m0 l
  | 1 => 974
  | _ => 9682
def mf (l k : Nat) : Nat := match k with
  | 0 => 2 ^ l
  | 1 => 8
  | _ => 70
/-- a pair: a term, what it comes to -/
def Pk (N : Nm) (l k : Nat) (r t : T) : Prop := Ev N (pd l k) (pm l k) r (pf l k) t
/-- a pair ahead of its larger terms -/
def Mk (N : Nm) (l k : Nat) (r t : T) : Prop := Ev N (md l k) (mm l k) r (mf l k) t
/-- what a pair of (l, k) is made of -/
structure Sub (l k l' k' : Nat) : Prop where
  le : l ≤ 2
  kle : k ≤ 2
  h : (k = 0 ∧ k' = 0 ∧ l = l' + 1) ∨ (1 ≤ k ∧ k' = k - 1 ∧ l' ≤ 2)
section
variable {N : Nm} {l k l' k' : Nat}
theorem m0_ge : ∀ l, 43 ≤ m0 l
  | 0 => Nat.le_refl _
  | l + 1 => by have := m0_ge l; show 43 ≤ 2 * m0 l + 90; omega
theorem Sub.num (h : Sub l k l' k') : pd l' k' + 2 ≤ md l k ∧ 2 * pm l' k' + 90 ≤ mm l k ∧ 2 * pf l' k' ≤ mf l k ∧ 9 ≤ pd l' k' ∧ 43 ≤ pm l' k' := by
  obtain ⟨h1, h2, h⟩ := h
  rcases h with ⟨rfl, rfl, rfl⟩ | ⟨h3, rfl, h4⟩
  · refine ⟨?_, ?_, ?_, ?_, m0_ge l'⟩
    · show 9 + 2 * l' + 2 ≤ 9 + 2 * (l' + 1); omega
    · show 2 * m0 l' + 90 ≤ 2 * m0 l' + 90; omega
    · show 2 * 2 ^ l' ≤ 2 ^ (l' + 1); rw [Nat.pow_succ]; omega
    · show 9 ≤ 9 + 2 * l'; omega
  · match k, h2, h3, l', h4 with
    | 1, _, _, 0, _ => show pd 0 0 + 2 ≤ 15 ∧ 2 * pm 0 0 + 90 ≤ 974 ∧ 2 * pf 0 0 ≤ 8 ∧ 9 ≤ pd 0 0 ∧ 43 ≤ pm 0 0; decide
    | 1, _, _, 1, _ => show pd 1 0 + 2 ≤ 15 ∧ 2 * pm 1 0 + 90 ≤ 974 ∧ 2 * pf 1 0 ≤ 8 ∧ 9 ≤ pd 1 0 ∧ 43 ≤ pm 1 0; decide
    | 1, _, _, 2, _ => show pd 2 0 + 2 ≤ 15 ∧ 2 * pm 2 0 + 90 ≤ 974 ∧ 2 * pf 2 0 ≤ 8 ∧ 9 ≤ pd 2 0 ∧ 43 ≤ pm 2 0; decide
    | 2, _, _, 0, _ => show pd 0 1 + 2 ≤ 27 ∧ 2 * pm 0 1 + 90 ≤ 9682 ∧ 2 * pf 0 1 ≤ 70 ∧ 9 ≤ pd 0 1 ∧ 43 ≤ pm 0 1; decide
    | 2, _, _, 1, _ => show pd 1 1 + 2 ≤ 27 ∧ 2 * pm 1 1 + 90 ≤ 9682 ∧ 2 * pf 1 1 ≤ 70 ∧ 9 ≤ pd 1 1 ∧ 43 ≤ pm 1 1; decide
    | 2, _, _, 2, _ => show pd 2 1 + 2 ≤ 27 ∧ 2 * pm 2 1 + 90 ≤ 9682 ∧ 2 * pf 2 1 ≤ 70 ∧ 9 ≤ pd 2 1 ∧ 43 ≤ pm 2 1; decide
theorem mk_ge (l k : Nat) : 9 ≤ md l k ∧ 43 ≤ mm l k ∧ 1 ≤ mf l k := by
  match k with
  | 0 => exact ⟨Nat.le_add_right _ _, m0_ge l, Nat.one_le_two_pow⟩
  | 1 => exact ⟨(by show 9 ≤ 15; decide), (by show 43 ≤ 974; decide), (by show 1 ≤ 8; decide)⟩
  | k + 2 => exact ⟨(by show 9 ≤ 27; decide), (by show 43 ≤ 9682; decide), (by show 1 ≤ 70; decide)⟩
theorem mk_small {r : T} (h : Bd N 9 43 r) (n : Nf N r) : Mk N l k r r := (ev_nf h n).up (Nat.zero_le _) (mk_ge l k).1 (mk_ge l k).2.1
theorem mk_two (hN : N.Ok) : Mk N l k (numT N 2) (.leaf (.name N.two)) := (ev_two hN).up (mk_ge l k).2.2 (by have := (mk_ge l k).1; omega) (by have := (mk_ge l k).2.1; omega)
theorem mk_flip (hN : N.Ok) {b : Nat} (hb : b = 0 ∨ b = 1) (hk : 1 ≤ k) : Mk N l k (tMk N.bit (1 - (b : Int))) (tAp (.leaf (.name N.flip)) (tMk N.bit b)) := by
  refine (ev_flip hN hb).up ?_ (by have := (mk_ge l k).1; omega) (by have := (mk_ge l k).2.1; omega)
  match k, hk with
  | 1, _ => show 3 ≤ 8; decide
  | k + 2, _ => show 3 ≤ 70; decide
/-- a part is a pair, too -/
theorem Mk.pk (h : Mk N l k r t) : Pk N l k r t := by
  match k with
  | 0 => exact h
  | 1 => exact h.up (by show 8 ≤ 35; decide) (by show 15 ≤ 25; decide) (by show 974 ≤ 4796; decide)
  | k + 2 => exact h.up (by show 70 ≤ 283; decide) (by show 27 ≤ 37; decide) (by show 9682 ≤ 39628; decide)
/-- so many larger terms -/
def Lk (N : Nm) (l k : Nat) (i : Nat) (r t : T) : Prop := match i with
  | 0 => Mk N l k r t
  | 1 => Ev N (md l k + 5) (2 * mm l k + 300) r (gF (mf l k)) t
  | _ => Pk N l k r t
theorem Lk.pk {i : Nat} (hk : 1 ≤ k) (h : Lk N l k i r t) : Pk N l k r t := by
  match i with
  | 0 => exact Mk.pk h
  | 1 =>
    match k, hk with
    | 1, _ => exact Ev.up (by show gF 8 ≤ 35; decide) (by show 15 + 5 ≤ 25; decide) (by show 2 * 974 + 300 ≤ 4796; decide) h
    | k + 2, _ => exact Ev.up (by show gF 70 ≤ 283; decide) (by show 27 + 5 ≤ 37; decide) (by show 2 * 9682 + 300 ≤ 39628; decide) h
  | i + 2 => exact h
/-- one more: d, m, f ahead of it -/
theorem Lk.next {i : Nat} {r t : T} (hk : 1 ≤ k) (hi : i < 2) (h : Lk N l k i r t) : ∃ d m f, 9 ≤ d ∧ d ≤ 40 ∧ m ≤ 100000 ∧ Ev N d m r f t ∧ ∀ t', Lg N d m f r t' → Lk N l k (i + 1) r t' := by
  have b : md l k ≤ 27 ∧ mm l k ≤ 9682 := by
    match k, hk with
    | 1, _ => exact ⟨(by show 15 ≤ 27; decide), (by show 974 ≤ 9682; decide)⟩
    | k + 2, _ => exact ⟨Nat.le_refl 27, Nat.le_refl 9682⟩
  match i, hi with
  | 0, _ => exact ⟨_, _, _, (mk_ge l k).1, by omega, by omega, h, fun t' h' => h'⟩
  | 1, _ =>
    refine ⟨_, _, _, (by have := (mk_ge l k).1; omega), by omega, by omega, h, fun t' h' => ?_⟩
    match k, hk with
    | 1, _ => exact Ev.up (by show gF (gF 8) ≤ 35; decide) (by show 15 + 5 + 5 ≤ 25; decide) (by show 2 * (2 * 974 + 300) + 300 ≤ 4796; decide) h'
    | k + 2, _ => exact Ev.up (by show gF (gF 70) ≤ 283; decide) (by show 27 + 5 + 5 ≤ 37; decide) (by show 2 * (2 * 9682 + 300) + 300 ≤ 39628; decide) h'
variable {r t r2 t2 : T}
theorem mk_lam {S : T} (s : Sub l k l' k') (hS : Bd N 7 41 S) (nS : Nf N S) (h : Pk N l' k' r t) : Mk N l k (tFn S r) (tFn S t) := by
  obtain ⟨h1, h2, h3, h4, h5⟩ := s.num
  exact (ev_lam (hS.up (by omega) (Nat.le_refl _)) nS h).up (by omega) (by omega) (by omega)
theorem mk_tree (hN : N.Ok) (s : Sub l k l' k') (h : Pk N l' k' r t) : Mk N l k (tAp (tMk N.tree 1) (tFn (tTh N.num) r)) (tAp (tMk N.tree 1) (tFn (tTh N.num) t)) := by
  obtain ⟨h1, h2, h3, h4, h5⟩ := s.num
  have a := ev_lam (th_bd hN.num (m := 1) (by omega) (by omega)) nf_th h
  have b := ev_ap mh_mk (ev_nf (mk_bd hN.tree (k := 1) (by decide) (m := 1) (by omega) (by omega)) nf_mk) a
  exact b.up (by omega) (by omega) (by omega)
theorem mk_line {S : T} (hN : N.Ok) (s : Sub l k l' k') (hS : Bd N 7 41 S) (nS : Nf N S) (h : Pk N l' k' r t) {l2 : Nat} (t2' : Sub l k l2 k') (h2 : Pk N l2 k' r2 t2) :
    Mk N l k (tAp (tAp (tAp (tMk N.line 1) S) r) r2) (tAp (tAp (tAp (tMk N.line 1) S) t) t2) := by
  obtain ⟨a1, a2, a3, a4, a5⟩ := s.num
  obtain ⟨b1, b2, b3, b4, b5⟩ := t2'.num
  have h0 : Bd N 8 43 (tAp (tMk N.line 1) S) := (Bd.bin .ap (mk_bd hN.line (k := 1) (by decide) (d := 7) (m := 1) (by omega) (by omega)) hS).up (by omega) (by omega)
  have n0 : Nf N (tAp (tMk N.line 1) S) := nf_ap mh_mk nf_mk nS
  have x1 := ev_ap (mh_ap.mpr mh_mk) (ev_nf (h0.up (d' := md l k - 2) (by omega) (Nat.le_refl _)) n0) (h.up (Nat.le_refl _) (by omega) (Nat.le_refl _))
  have x2 := ev_ap (mh_ap.mpr (mh_ap.mpr mh_mk)) x1 (h2.up (Nat.le_refl _) (by omega) (Nat.le_refl _))
  exact x2.up (by omega) (by omega) (by omega)
theorem mk_both {a b : T} (hN : N.Ok) (s : Sub l k l' k') (ha : Bd N 7 41 a) (na : Nf N a) (hb : Bd N 7 41 b) (nb : Nf N b) (h : Pk N l' k' r t) (h2 : Pk N l' k' r2 t2) :
    Mk N l k (tAp (tAp (tAp (tAp (tMk N.both 0) a) b) r) r2) (tAp (tAp (tAp (tAp (tMk N.both 0) a) b) t) t2) := by
  obtain ⟨a1, a2, a3, a4, a5⟩ := s.num
  have h0 : Bd N 9 85 (tAp (tAp (tMk N.both 0) a) b) := (Bd.bin .ap (Bd.bin .ap (mk_bd hN.both (k := 0) (by decide) (d := 7) (m := 1) (by omega) (by omega)) ha) (hb.up (by omega) (Nat.le_refl _))).up (by omega) (by omega)
  have n0 : Nf N (tAp (tAp (tMk N.both 0) a) b) := nf_ap (mh_ap.mpr mh_mk) (nf_ap mh_mk nf_mk na) nb
  have x1 := ev_ap (mh_ap.mpr (mh_ap.mpr mh_mk)) (ev_nf (h0.up (d' := md l k - 2) (by omega) (Nat.le_refl _)) n0) (h.up (Nat.le_refl _) (by omega) (Nat.le_refl _))
  have x2 := ev_ap (mh_ap.mpr (mh_ap.mpr (mh_ap.mpr mh_mk))) x1 (h2.up (Nat.le_refl _) (by omega) (Nat.le_refl _))
  exact x2.up (by omega) (by omega) (by omega)
theorem mk_either {a b : T} {i : Int} (hi : 0 ≤ i) (hN : N.Ok) (s : Sub l k l' k') (ha : Bd N 7 41 a) (na : Nf N a) (hb : Bd N 7 41 b) (nb : Nf N b) (h : Pk N l' k' r t) :
    Mk N l k (tAp (tAp (tAp (tMk N.either i) a) b) r) (tAp (tAp (tAp (tMk N.either i) a) b) t) := by
  obtain ⟨a1, a2, a3, a4, a5⟩ := s.num
  have h0 : Bd N 9 85 (tAp (tAp (tMk N.either i) a) b) := (Bd.bin .ap (Bd.bin .ap (mk_bd hN.either hi (d := 7) (m := 1) (by omega) (by omega)) ha) (hb.up (by omega) (Nat.le_refl _))).up (by omega) (by omega)
  have n0 : Nf N (tAp (tAp (tMk N.either i) a) b) := nf_ap (mh_ap.mpr mh_mk) (nf_ap mh_mk nf_mk na) nb
  have x1 := ev_ap (mh_ap.mpr (mh_ap.mpr mh_mk)) (ev_nf (h0.up (d' := md l k - 2) (by omega) (Nat.le_refl _)) n0) (h.up (Nat.le_refl _) (by omega) (Nat.le_refl _))
  exact x1.up (by omega) (by omega) (by omega)
/-- a pair in the end -/
theorem Pk.ev {r t : T} (hl : l ≤ 2) (h : Pk N l k r t) : Ev N 37 39628 r 283 t := by
  refine Ev.up ?_ ?_ ?_ h
  · match k, l, hl with
    | 0, 0, _ => decide
    | 0, 1, _ => decide
    | 0, 2, _ => decide
    | 1, _, _ => show 35 ≤ 283; decide
    | k + 2, _, _ => exact Nat.le_refl 283
  · match k, l, hl with
    | 0, 0, _ => decide
    | 0, 1, _ => decide
    | 0, 2, _ => decide
    | 1, _, _ => show 25 ≤ 37; decide
    | k + 2, _, _ => exact Nat.le_refl 37
  · match k, l, hl with
    | 0, 0, _ => decide
    | 0, 1, _ => decide
    | 0, 2, _ => decide
    | 1, _, _ => show 4796 ≤ 39628; decide
    | k + 2, _, _ => exact Nat.le_refl 39628
end
end Kp
set_option maxRecDepth 100000
set_option maxHeartbeats 8000000
/-! A25: a larger term -/
namespace Kp
open PySem PySem.Spec L2
section
variable {P : Program} {w : World} {K : PySem.W.Frag} {mg : Str → Option Value} {base : Heap}
theorem dVar_mono (i : Nat) : ∀ ρ π Q Q', (∀ d π', Q d π' → Q' d π') → dVar i ρ π Q → dVar i ρ π Q' := fun ρ π Q Q' q ⟨d, h1, h2⟩ => ⟨d, h1, q _ _ h2⟩
/-- what a larger term is made of -/
structure LgPre (N : Nm) (l d m f : Nat) (B : Int) (r t S : T) : Prop where
  sy : Sy N l S
  l2 : l ≤ 2
  d9 : 9 ≤ d
  d40 : d ≤ 40
  m5 : m ≤ 100000
  ev : Ev N d m r f t
  B2 : 2 ≤ B
  B9 : B ≤ 900
  tv : t.vle B
  sv : S.vle B
abbrev sp_larger (N : Nm) : SpecD := fun ds π Q => ∃ (a : Addr) (n : Nat) (room : D) (l d m f : Nat) (B : Int) (r t S : T), ds = [.adr a, nmD N, room, toD t, toD S] ∧ LgPre N l d m f B r t S ∧ PuOk n a π ∧ n + 10 ≤ 1000000000 ∧ ∀ t' π', Lg N d m f r t' → t'.vle (B + 1) → PuOk (n + 10) a π' → Q (toD t') π'
theorem nmAt0 (N : Nm) : atI (N.all.map D.str) 0 = some (.str N.num) := rfl
theorem nmAt1 (N : Nm) : atI (N.all.map D.str) 1 = some (.str N.bit) := rfl
theorem x_raise {d : Nat} {t : T} {b s : Int} {π : Pu} {Q : D → Pu → Prop} (h1 : t.dp ≤ d) (h2 : 0 ≤ b) (h3 : b ≤ 1000) (q : Q (toD (t.raise b s)) π) : sp_lraised d ([toD t, .int b, .int s] ++ []) π Q := x_f1 (t, b, s) rfl ⟨h1, h2, h3⟩ q
theorem sc_law_larger : FnScope ["_law_purse_here", "_law_names_here", "_law_room", "_law_term", "_law_saying_here", "_law_num", "_law_bit", "_law_way", "_law_side", "_law_step", "_law_last"] ["_law_purse_here", "_law_names_here", "_law_room", "_law_term", "_law_saying_here"] d_law_larger.scope := ⟨rfl, rfl, rfl, by decide +kernel, rfl, by decide +kernel, by decide +kernel⟩
theorem F_larger (Z : Tx P w K mg base) {N : Nm} (hN : N.Ok) : Fn P w K mg base (GC K) "_law_larger" 58 [] (sp_larger N) := by
  refine fn_m0 Z (k := 57) 58 rfl rfl rfl rfl sc_law_larger (by decide) (fun _ _ _ _ _ _ us hl => match us, hl with | [_, _, _, _, _], _ => rfl) ?hl ?hm (fun f cdv A outer s H E hr => by
    have sc := sc_law_larger
    exact (dss_cons (ds_par (i := 5) (j := 6) rfl sc.nd (da_cons (de_tup (da_cons de_str (da_cons (de_ix ix_seq d2_ix (de_var 1) de_int) da_nil))) (da_cons (de_tup (da_cons de_str (da_cons (de_ix ix_seq d2_ix (de_var 1) de_int) da_nil))) da_nil))) (dss_cons (ds_set (i := 7) sc.nd (de_call (F_take Z) (hr.mono (by omega)) (da_cons (de_var 0) (da_cons de_int da_nil)))) (dss_cons (ds_if (DW.dt (dw_or (dt_cmp op_eq d2_eqS (de_var 7) de_int (nomark _)) (dw_or1 (DW.dt (dw_and (dt_cmp op_eq d2_eqS (de_var 7) de_int (nomark _)) (dw_and1 (dt_cmp op_gt d2_gt (de_lenR hr.units66 Z.f_len Z.f_repr (de_var 3)) de_int (nomark _)))))))) (dss_one (ds_ret (de_tup (da_cons de_str (da_cons (de_tup (da_cons de_str (da_cons (de_var 4) (da_cons (de_tup (da_cons de_str (da_cons de_int da_nil))) da_nil)))) (da_cons (de_var 3) da_nil)))))) dss_nil) (dss_cons (ds_if (dt_cmp op_eq d2_eqS (de_var 7) de_int (nomark _)) (dss_cons (ds_par (i := 8) (j := 9) rfl sc.nd (da_cons (de_tup (da_cons de_str (da_cons (de_var 5) (da_cons (de_call (F_law_raised Z 56) (hr.mono (by omega)) (da_cons (de_var 4) (da_cons de_int (da_cons de_int da_nil)))) da_nil)))) (da_cons (de_tup (da_cons de_str (da_cons (de_call (F_law_raised Z 56) (hr.mono (by omega)) (da_cons (de_var 4) (da_cons de_int (da_cons de_int da_nil)))) (da_cons (de_tup (da_cons de_str (da_cons de_int da_nil))) da_nil)))) da_nil))) (dss_cons (ds_set (i := 10) sc.nd (de_call (F_law_number Z N) (hr.mono (by omega)) (da_cons (de_var 1) (da_cons (de_call (F_take Z) (hr.mono (by omega)) (da_cons (de_var 0) (da_cons de_int da_nil))) da_nil)))) (dss_one (ds_ret (de_call (F_law_app Z) (hr.mono (by omega)) (da_cons (de_tup (da_cons de_str (da_cons (de_ix ix_seq d2_ix (de_var 1) de_int) (da_cons (de_call (F_height Z 8) (hr.mono (by omega)) (da_cons (de_var 4) da_nil)) da_nil)))) (da_cons (de_lst (da_cons (de_var 8) (da_cons (de_var 3) (da_cons (de_tup (da_cons de_str (da_cons (de_var 5) (da_cons (de_var 9) da_nil)))) (da_cons (de_var 10) da_nil))))) da_nil))))))) dss_nil) (dss_cons (ds_if (dt_cmp op_eq d2_eqS (de_var 7) de_int (nomark _)) (dss_one (ds_ret (de_tup (da_cons de_str (da_cons (de_tup (da_cons de_str (da_cons (de_var 5) (da_cons (de_call (F_law_raised Z 56) (hr.mono (by omega)) (da_cons (de_var 3) (da_cons de_int (da_cons de_int da_nil)))) da_nil)))) (da_cons (de_call (F_law_number Z N) (hr.mono (by omega)) (da_cons (de_var 1) (da_cons (de_call (F_take Z) (hr.mono (by omega)) (da_cons (de_var 0) (da_cons de_int da_nil))) da_nil))) da_nil)))))) dss_nil) (dss_cons (ds_if (dt_cmp op_eq d2_eqS (de_var 7) de_int (nomark _)) (dss_cons (ds_set (i := 8) sc.nd (de_tup (da_cons de_str (da_cons (de_var 5) (da_cons (de_call (F_law_raised Z 56) (hr.mono (by omega)) (da_cons (de_var 4) (da_cons de_int (da_cons de_int da_nil)))) da_nil))))) (dss_one (ds_ret (de_tup (da_cons de_str (da_cons (de_var 8) (da_cons (de_tup (da_cons de_str (da_cons (de_var 5) (da_cons (de_call (F_law_number Z N) (hr.mono (by omega)) (da_cons (de_var 1) (da_cons (de_call (F_take Z) (hr.mono (by omega)) (da_cons (de_var 0) (da_cons de_int da_nil))) da_nil))) da_nil)))) (da_cons (de_var 3) da_nil)))))))) dss_nil) (dss_cons (ds_set (i := 8) sc.nd (de_tup (da_cons de_str (da_cons (de_var 6) (da_cons (de_call (F_law_raised Z 56) (hr.mono (by omega)) (da_cons (de_var 4) (da_cons de_int (da_cons de_int da_nil)))) da_nil))))) (dss_cons (ds_set (i := 10) sc.nd (de_tup (da_cons de_str (da_cons (de_ix ix_seq d2_ix (de_var 1) de_int) (da_cons (de_call (F_take Z) (hr.mono (by omega)) (da_cons (de_var 0) (da_cons de_int da_nil))) da_nil))))) (dss_one (ds_ret (de_call (F_law_app Z) (hr.mono (by omega)) (da_cons (de_tup (da_cons de_str (da_cons (de_ix ix_seq d2_ix (de_var 1) de_int) (da_cons (de_call (F_height Z 8) (hr.mono (by omega)) (da_cons (de_var 4) da_nil)) da_nil)))) (da_cons (de_lst (da_cons (de_var 8) (da_cons (de_var 3) (da_cons (de_var 3) (da_cons (de_var 10) da_nil))))) da_nil)))))))))))))) ?hg
  case hl =>
    rintro ds π Q ⟨a, n, room, l, d, m, f, B, r, t, S, e, _⟩
    rw [e]; rfl
  case hm =>
    rintro ds π Q Q' q ⟨a, n, room, l, d, m, f, B, r, t, S, e, h1, h2, h3, h4⟩
    exact ⟨a, n, room, l, d, m, f, B, r, t, S, e, h1, h2, h3, fun S π' g1 g2 g3 => q _ _ (h4 S π' g1 g2 g3)⟩
  rintro ds π Q ⟨a, n, room, l, d, m, f, B, r, t, S, e, ⟨sy, l2, d9, d40, m5, ev, B2, B9, tv, sv⟩, hp, hc, q⟩
  subst e
  have fx := hp.fix
  have sb := sy.bd hN l2
  have tb := ev.bd
  have sr : (S.raise 1 0).vle (B + 1) := T.vle_raise (by decide) 0 sv
  have tr : (t.raise 1 0).vle (B + 1) := T.vle_raise (by decide) 0 tv
  have tv' := T.vle_up (show B ≤ B + 1 by omega) tv
  have sv' := T.vle_up (show B ≤ B + 1 by omega) sv
  walk_at "kpm"
  try (refine x_ixL (nmAt0 N) ?_)
  walk_at "kpm"
  try (refine x_ixL (nmAt1 N) ?_)
  walk_at "kpm"
  refine x_take hp (by omega) ⟨by decide, by decide⟩ fun r π1 r0 r1 hp1 => ?_
  have hr : r = 0 ∨ r = 1 ∨ r = 2 ∨ r = 3 ∨ r = 4 := by omega
  rcases hr with rfl | rfl | rfl | rfl | rfl
  · walk_at "kpm"
    show Q _ (fixP π π1)
    rw [fx]
    exact q _ π1 (lg_id hN sy l2 d9 ev) ⟨⟨sv', by simp only [T.vle]; omega⟩, tv'⟩ (hp1.up (by omega))
  · walk_at "kpm"
    refine x_raise (by have := tb.dp; omega) (by decide) (by decide) ?_
    walk_at "kpm"
    refine x_take hp1 (by omega) ⟨by decide, by decide⟩ fun k π2 k0 k1 hp2 => ?_
    obtain ⟨k, rfl⟩ := Int.eq_ofNat_of_zero_le k0
    walk_at "kpm"
    refine x_f1 k rfl (by omega) ?_
    walk_at "kpm"
    show Q _ (fixP π π2)
    rw [fx]
    exact q _ π2 (lg_const hN sy l2 d9 ev (by omega)) ⟨⟨trivial, tr⟩, numT_vle (by omega) k⟩ (hp2.up (by omega))
  · walk_at "kpm"
    refine x_raise (by have := sb.dp; omega) (by decide) (by decide) ?_
    walk_at "kpm"
    refine x_take hp1 (by omega) ⟨by decide, by decide⟩ fun k π2 k0 k1 hp2 => ?_
    obtain ⟨k, rfl⟩ := Int.eq_ofNat_of_zero_le k0
    walk_at "kpm"
    refine x_f1 k rfl (by omega) ?_
    walk_at "kpm"
    show Q _ (fixP π π2)
    rw [fx]
    exact q _ π2 (lg_put hN sy l2 d9 ev (by omega)) ⟨⟨trivial, sr⟩, ⟨trivial, numT_vle (by omega) k⟩, tv'⟩ (hp2.up (by omega))
  · walk_at "kpm"
    refine ⟨⟨t, rfl, tb.ok, T.vle_up (by omega) tv, by have := tb.dp; omega, by have := tb.sz; omega⟩, fun z => ?_⟩
    walk_at "kpm"
    by_cases hz : 300 < (z : Int)
    · refine x_if_t (by simpa using hz) ?_
      walk_at "kpm"
      show Q _ (fixP π π1)
      rw [fx]
      exact q _ π1 (lg_id hN sy l2 d9 ev) ⟨⟨sv', by simp only [T.vle]; omega⟩, tv'⟩ (hp1.up (by omega))
    · refine x_if_f (by simpa using hz) ?_
      walk_at "kpm"
      refine x_raise (by have := sb.dp; omega) (by decide) (by decide) ?_
      walk_at "kpm"
      try (refine x_ixL (nmAt1 N) ?_)
      walk_at "kpm"
      refine x_take hp1 (by omega) ⟨by decide, by decide⟩ fun k π2 k0 k1 hp2 => ?_
      obtain ⟨k, rfl⟩ := Int.eq_ofNat_of_zero_le k0
      walk_at "kpm"
      try (refine x_ixL (nmAt1 N) ?_)
      walk_at "kpm"
      refine x_f1 S rfl (by have := sb.dp; omega) ?_
      rw [sy.ht]
      walk_at "kpm"
      refine x_f1 (.leaf (.eater N.bit 0), [tFn (tTh N.bit) (S.raise 1 0), t, t, tMk N.bit k]) rfl trivial ?_
      walk_at "kpm"
      show Q _ (fixP π π2)
      rw [fx]
      have hk : k = 0 ∨ k = 1 := by omega
      exact q _ π2 (lg_bit hN sy l2 d9 ev hk) ⟨⟨⟨⟨trivial, trivial, sr⟩, tv'⟩, tv'⟩, by simp only [T.vle]; omega⟩ (hp2.up (by omega))
  · walk_at "kpm"
    refine x_raise (by have := sb.dp; omega) (by decide) (by decide) ?_
    walk_at "kpm"
    refine x_raise (by have := sb.dp; omega) (by decide) (by decide) ?_
    walk_at "kpm"
    refine x_take hp1 (by omega) ⟨by decide, by decide⟩ fun k π2 k0 k1 hp2 => ?_
    obtain ⟨k, rfl⟩ := Int.eq_ofNat_of_zero_le k0
    walk_at "kpm"
    refine x_f1 k rfl (by omega) ?_
    walk_at "kpm"
    try (refine x_ixL (nmAt0 N) ?_)
    walk_at "kpm"
    refine x_f1 S rfl (by have := sb.dp; omega) ?_
    rw [sy.ht]
    walk_at "kpm"
    refine x_f1 (.leaf (.eater N.num 0), [tFn (tTh N.num) (S.raise 1 0), t, stT N S, numT N k]) rfl trivial ?_
    walk_at "kpm"
    show Q _ (fixP π π2)
    rw [fx]
    exact q _ π2 (lg_num hN sy l2 d9 ev (by omega)) ⟨⟨⟨⟨trivial, trivial, sr⟩, tv'⟩, trivial, sr, by simp only [T.vle]; omega⟩, numT_vle (by omega) k⟩ (hp2.up (by omega))
end
end Kp
set_option maxRecDepth 100000
set_option maxHeartbeats 8000000
/-! A26: a pair of a thing -/
namespace Kp
open PySem PySem.Spec L2
def cP : Nat → Nat
  | 0 => 30
  | j + 1 => 2 * cP j + 30
def cM : Nat → Nat
  | 0 => 3
  | j + 1 => 2 * cP j + 3
/-- what a pair is asked of -/
structure PPre (N : Nm) (m l k : Nat) (deep : Int) (rm : List T) (S : T) : Prop where
  sy : Sy N l S
  l2 : l ≤ 2
  k2 : k ≤ 2
  dk : (deep ≤ 0 ∧ k = 0) ∨ deep = (k : Nat)
  lt : l + k < m
  rl : rm.length + (l + k) ≤ 20
  rg : ∀ u ∈ rm, u.ok ∧ u.dp ≤ 8
  sv : S.vle 20
theorem PPre.down {N : Nm} {m l k : Nat} {deep : Int} {rm : List T} {S : T} (h : PPre N (m + 1) l k deep rm S) {l' : Nat} {S' : T} {rm' : List T} (sy : Sy N l' S') (sv : S'.vle 20) (hl : l = l' + 1 ∨ (1 ≤ k ∧ l' = l)) (hr : rm'.length ≤ rm.length + 1) (rg : ∀ u ∈ rm', u.ok ∧ u.dp ≤ 8) :
    PPre N m l' (k - 1) (deep - 1) rm' S' ∧ Sub l k l' (k - 1) ∧ l' + (k - 1) + 1 ≤ l + k := by
  obtain ⟨h1, h2, h3, h4, h5, h6, h7, h8⟩ := h
  refine ⟨⟨sy, ?_, ?_, ?_, ?_, ?_, rg, sv⟩, ⟨h2, h3, ?_⟩, ?_⟩ <;> omega
theorem cP_mono : ∀ {i j : Nat}, i ≤ j → cP i ≤ cP j
  | 0, 0, _ => Nat.le_refl _
  | 0, j + 1, _ => by have := @cP_mono 0 j (Nat.zero_le _); show cP 0 ≤ 2 * cP j + 30; omega
  | i + 1, j + 1, h => by have := cP_mono (Nat.le_of_succ_le_succ h); show 2 * cP i + 30 ≤ 2 * cP j + 30; omega
theorem cM_ge {i j : Nat} (h : i + 1 ≤ j) : 2 * cP i + 3 ≤ cM j := by
  cases j with
  | zero => omega
  | succ j =>
    have := cP_mono (show i ≤ j by omega)
    show _ ≤ 2 * cP j + 3
    omega
theorem cM_3 (j : Nat) : 3 ≤ cM j := by
  cases j with
  | zero => exact Nat.le_refl _
  | succ j => exact Nat.le_add_left _ _
theorem cM_cP (j : Nat) : cM j + 24 ≤ cP j := by
  cases j with
  | zero => decide
  | succ j => show 2 * cP j + 3 + 24 ≤ 2 * cP j + 30; omega
def pv (l k : Nat) : Int := 22 + 2 * ((l + k : Nat) : Int)
def mv (l k : Nat) : Int := 20 + 2 * ((l + k : Nat) : Int)
theorem pv_mv {l k l' k' : Nat} (h : l' + k' + 1 ≤ l + k) : pv l' k' ≤ mv l k := by unfold pv mv; omega
abbrev sp_pair (N : Nm) (m : Nat) : SpecD := fun ds π Q => ∃ (a : Addr) (n l k : Nat) (deep : Int) (rm : List T) (S : T), ds = [.adr a, nmD N, .lst (rm.map toD), toD S, .int deep] ∧ PPre N m l k deep rm S ∧ PuOk n a π ∧ n + cP (l + k) ≤ 1000000000 ∧ ∀ r t π', Pk N l k r t → t.vle (pv l k) → PuOk (n + cP (l + k)) a π' → Q (.tup [toD r, toD t]) π'
abbrev sp_made (N : Nm) (m : Nat) : SpecD := fun ds π Q => ∃ (a : Addr) (n l k : Nat) (deep : Int) (rm : List T) (S : T), ds = [.adr a, nmD N, .lst (rm.map toD), toD S, .int deep] ∧ PPre N m l k deep rm S ∧ PuOk n a π ∧ n + cM (l + k) ≤ 1000000000 ∧ ∀ r t π', Mk N l k r t → t.vle (mv l k) → PuOk (n + cM (l + k)) a π' → Q (.tup [toD r, toD t]) π'
/-- a saying of a thing that is told by its makers -/
def Thg (N : Nm) (S : T) : Prop := S = tTh N.num ∨ S = tTh N.bit ∨ S = tTh N.tree ∨ ∃ u, S = tAp (tTh N.line) u
abbrev sp_thing (N : Nm) (m : Nat) : SpecD := fun ds π Q => ∃ (a : Addr) (n l k : Nat) (deep : Int) (rm : List T) (S : T), ds = [.adr a, nmD N, .lst (rm.map toD), toD S, .int deep] ∧ (PPre N m l k deep rm S ∧ Thg N S) ∧ PuOk n a π ∧ n + cM (l + k) ≤ 1000000000 ∧ ∀ r t π', Mk N l k r t → t.vle (mv l k) → PuOk (n + cM (l + k)) a π' → Q (.tup [toD r, toD t]) π'
theorem x_pair {N : Nm} {m n l k : Nat} {a : Addr} {deep : Int} {rm : List T} {S : T} {ds : List D} {π : Pu} {Q : D → Pu → Prop} (e : ds = [.adr a, nmD N, .lst (rm.map toD), toD S, .int deep]) (pre : PPre N m l k deep rm S) (hp : PuOk n a π) (hc : n + cP (l + k) ≤ 1000000000) (q : ∀ r t π', Pk N l k r t → t.vle (pv l k) → PuOk (n + cP (l + k)) a π' → Q (.tup [toD r, toD t]) π') : sp_pair N m (ds ++ []) π Q :=
  ⟨a, n, l, k, deep, rm, S, by rw [List.append_nil]; exact e, pre, hp, hc, q⟩
theorem nmAt3 (N : Nm) : atI (N.all.map D.str) 3 = some (.str N.both) := rfl
theorem nmAt7 (N : Nm) : atI (N.all.map D.str) 7 = some (.str N.two) := rfl
theorem nmAt8 (N : Nm) : atI (N.all.map D.str) 8 = some (.str N.flip) := rfl
theorem Nm.Ok.ne {N : Nm} (h : N.Ok) : N.bit ≠ N.num ∧ N.tree ≠ N.num ∧ N.tree ≠ N.bit ∧ N.line ≠ N.num ∧ N.line ≠ N.bit ∧ N.both ≠ N.either := by
  have nd := h.nd
  simp only [Nm.all, List.nodup_cons, List.mem_cons, List.not_mem_nil, not_or, not_false_eq_true, or_false] at nd
  obtain ⟨⟨a1, a2, a3, a4, a5, a6, a7, a8, a9⟩, ⟨b1, b2, b3, b4, b5, b6, b7, b8⟩, ⟨c1, c2, c3, c4, c5, c6, c7⟩, ⟨d1, d2, d3, d4, d5, d6⟩, ⟨e1, e2, e3, e4, e5⟩, ⟨f1, f2, f3, f4⟩, ⟨g1, g2, g3⟩, ⟨h1, h2⟩, i1, _⟩ := nd
  exact ⟨fun e => a1 e.symm, fun e => a6 e.symm, fun e => b5 e.symm, fun e => a5 e.symm, fun e => b4 e.symm, d1⟩
section
variable {P : Program} {w : World} {K : PySem.W.Frag} {mg : Str → Option Value} {base : Heap}
theorem sc_law_made_thing : FnScope ["_law_purse_here", "_law_names_here", "_law_room", "_law_saying_here", "_law_deep", "_law_name", "_law_many", "_law_side", "_law_flipped", "_law_num", "_law_one", "_law_other", "_law_head", "_law_first", "_law_rest"] ["_law_purse_here", "_law_names_here", "_law_room", "_law_saying_here", "_law_deep"] d_law_made_thing.scope := ⟨rfl, rfl, rfl, by decide +kernel, rfl, by decide +kernel, by decide +kernel⟩
theorem F_made_thing_of (Z : Tx P w K mg base) {N : Nm} (hN : N.Ok) {k0 m : Nat} (h : Fn P w K mg base (GC K) "_law_pair" (k0 + 1) [] (sp_pair N m)) : Fn P w K mg base (GC K) "_law_made_thing" (k0 + 2) [] (sp_thing N (m + 1)) := by
  refine fn_m0 Z (k := (k0+1)) 57 rfl rfl rfl rfl sc_law_made_thing (by decide) (fun _ _ _ _ _ _ us hl => match us, hl with | [_, _, _, _, _], _ => rfl) ?hl ?hm (fun f cdv A outer s H E hr => by
    have sc := sc_law_made_thing
    exact (dss_cons (ds_set (i := 5) sc.nd (de_if (dt_cmp op_eq d2_eqS (de_ix ix_seq d2_ix (de_var 3) de_int) de_str (nomark _)) (de_ix ix_seq d2_ix (de_var 3) de_int) (de_ix ix_seq d2_ix (de_ix ix_seq d2_ix (de_var 3) de_int) de_int))) (dss_cons (ds_if (dt_cmp op_eq d2_eqS (de_var 5) (de_ix ix_seq d2_ix (de_var 1) de_int) (nomark _)) (dss_cons (ds_set (i := 6) sc.nd (de_call (F_take Z) (hr.mono (by omega)) (da_cons (de_var 0) (da_cons de_int da_nil)))) (dss_one (ds_ret (de_tup (da_cons (de_call (F_law_number Z N) (hr.mono (by omega)) (da_cons (de_var 1) (da_cons (de_var 6) da_nil))) (da_cons (de_if (dt_cmp op_eq d2_eqS (de_var 6) de_int (nomark _)) (de_tup (da_cons de_str (da_cons (de_ix ix_seq d2_ix (de_var 1) de_int) da_nil))) (de_call (F_law_number Z N) (hr.mono (by omega)) (da_cons (de_var 1) (da_cons (de_var 6) da_nil)))) da_nil)))))) dss_nil) (dss_cons (ds_if (dt_cmp op_eq d2_eqS (de_var 5) (de_ix ix_seq d2_ix (de_var 1) de_int) (nomark _)) (dss_cons (ds_set (i := 7) sc.nd (de_call (F_take Z) (hr.mono (by omega)) (da_cons (de_var 0) (da_cons de_int da_nil)))) (dss_cons (ds_set (i := 8) sc.nd (de_tup (da_cons de_str (da_cons (de_tup (da_cons de_str (da_cons (de_ix ix_seq d2_ix (de_var 1) de_int) da_nil))) (da_cons (de_tup (da_cons de_str (da_cons (de_var 5) (da_cons (de_bin op_sub d2_subI de_int (de_var 7)) da_nil)))) da_nil))))) (dss_one (ds_ret (de_tup (da_cons (de_tup (da_cons de_str (da_cons (de_var 5) (da_cons (de_var 7) da_nil)))) (da_cons (de_if (dt_cmp op_gt d2_gt (de_var 4) de_int (nomark _)) (de_var 8) (de_tup (da_cons de_str (da_cons (de_var 5) (da_cons (de_var 7) da_nil))))) da_nil))))))) dss_nil) (dss_cons (ds_if (dt_cmp op_eq d2_eqS (de_ix ix_seq d2_ix (de_var 3) de_int) de_str (nomark _)) (dss_cons (ds_if (dt_cmp op_lt d2_lt (de_var 4) de_int (nomark _)) (dss_one (ds_ret (de_bin op_repT d2_rep2 (de_tup (da_cons (de_tup (da_cons de_str (da_cons (de_var 5) (da_cons de_int da_nil)))) da_nil)) de_int))) dss_nil) (dss_cons (ds_set (i := 9) sc.nd (de_tup (da_cons de_str (da_cons (de_ix ix_seq d2_ix (de_var 1) de_int) da_nil)))) (dss_cons (ds_asg (de_call (h) (hr.mono (by omega)) (da_cons (de_var 0) (da_cons (de_var 1) (da_cons (de_bin op_cat d2_catL (de_var 2) (de_lst (da_cons (de_var 9) da_nil))) (da_cons (de_var 3) (da_cons (de_bin op_sub d2_subI (de_var 4) de_int) da_nil)))))) (dg_tup rfl (dgs_cons (i := 10) sc.nd (dgs_cons (i := 11) sc.nd dgs_nil)))) (dss_cons (ds_set (i := 12) sc.nd (de_tup (da_cons de_str (da_cons (de_var 5) (da_cons de_int da_nil))))) (dss_one (ds_ret (de_tup (da_cons (de_tup (da_cons de_str (da_cons (de_var 12) (da_cons (de_tup (da_cons de_str (da_cons (de_var 9) (da_cons (de_var 10) da_nil)))) da_nil)))) (da_cons (de_tup (da_cons de_str (da_cons (de_var 12) (da_cons (de_tup (da_cons de_str (da_cons (de_var 9) (da_cons (de_var 11) da_nil)))) da_nil)))) da_nil))))))))) dss_nil) (dss_cons (ds_if (DW.dt (dw_or (dt_cmp op_lt d2_lt (de_var 4) de_int (nomark _)) (dw_or1 (dt_cmp op_eq d2_eqS (de_call (F_take Z) (hr.mono (by omega)) (da_cons (de_var 0) (da_cons de_int da_nil))) de_int (nomark _))))) (dss_one (ds_ret (de_bin op_repT d2_rep2 (de_tup (da_cons (de_tup (da_cons de_str (da_cons (de_tup (da_cons de_str (da_cons (de_var 5) (da_cons de_int da_nil)))) (da_cons (de_ix ix_seq d2_ix (de_var 3) de_int) da_nil)))) da_nil)) de_int))) dss_nil) (dss_cons (ds_set (i := 12) sc.nd (de_tup (da_cons de_str (da_cons (de_tup (da_cons de_str (da_cons (de_var 5) (da_cons de_int da_nil)))) (da_cons (de_ix ix_seq d2_ix (de_var 3) de_int) da_nil))))) (dss_cons (ds_set (i := 13) sc.nd (de_call (h) (hr.mono (by omega)) (da_cons (de_var 0) (da_cons (de_var 1) (da_cons (de_var 2) (da_cons (de_ix ix_seq d2_ix (de_var 3) de_int) (da_cons (de_bin op_sub d2_subI (de_var 4) de_int) da_nil))))))) (dss_cons (ds_set (i := 14) sc.nd (de_call (h) (hr.mono (by omega)) (da_cons (de_var 0) (da_cons (de_var 1) (da_cons (de_var 2) (da_cons (de_var 3) (da_cons (de_bin op_sub d2_subI (de_var 4) de_int) da_nil))))))) (dss_one (ds_ret (de_tup (da_cons (de_call (F_law_app Z) (hr.mono (by omega)) (da_cons (de_var 12) (da_cons (de_lst (da_cons (de_ix ix_seq d2_ix (de_var 13) de_int) (da_cons (de_ix ix_seq d2_ix (de_var 14) de_int) da_nil))) da_nil))) (da_cons (de_call (F_law_app Z) (hr.mono (by omega)) (da_cons (de_var 12) (da_cons (de_lst (da_cons (de_ix ix_seq d2_ix (de_var 13) de_int) (da_cons (de_ix ix_seq d2_ix (de_var 14) de_int) da_nil))) da_nil))) da_nil)))))))))))))) ?hg
  case hl =>
    rintro ds π Q ⟨a, n, l, k, deep, rm, S, e, _⟩
    rw [e]; rfl
  case hm =>
    rintro ds π Q Q' q ⟨a, n, l, k, deep, rm, S, e, h1, h2, h3, h4⟩
    exact ⟨a, n, l, k, deep, rm, S, e, h1, h2, h3, fun r t π' g1 g2 g3 => q _ _ (h4 r t π' g1 g2 g3)⟩
  rintro ds π Q ⟨a, n, l, k, deep, rm, S, e, ⟨pre, th⟩, hp, hc, q⟩
  subst e
  have fx := hp.fix
  have c3 := cM_3 (l + k)
  have m20 : (20 : Int) ≤ mv l k := by unfold mv; omega
  obtain ⟨n1, n2, n3, n4, n5, _⟩ := hN.ne
  rcases th with rfl | rfl | rfl | ⟨u, rfl⟩
  · walk_at "kpm"
    refine x_take hp (by omega) ⟨by decide, by decide⟩ fun i π1 i0 i1 hp1 => ?_
    obtain ⟨i, rfl⟩ := Int.eq_ofNat_of_zero_le i0
    walk_at "kpm"
    refine x_f1 i rfl (by omega) ?_
    walk_at "kpm"
    by_cases hi : i = 2
    · subst hi
      walk_at "kpm"
      show Q _ (fixP π π1)
      rw [fx]
      exact q _ _ π1 (mk_two hN) trivial (hp1.up (by omega))
    · refine x_if_f (decide_eq_false (by omega)) ?_
      walk_at "kpm"
      refine x_f1 i rfl (by omega) ?_
      walk_at "kpm"
      show Q _ (fixP π π1)
      rw [fx]
      exact q _ _ π1 (mk_small ((bd_numT hN i).up (by omega) (by omega)) (nf_numT N i)) (numT_vle (by omega) i) (hp1.up (by omega))
  · walk_at "kpm"
    refine x_if_f (decide_eq_false n1) ?_
    walk_at "kpm"
    refine x_take hp (by omega) ⟨by decide, by decide⟩ fun i π1 i0 i1 hp1 => ?_
    obtain ⟨i, rfl⟩ := Int.eq_ofNat_of_zero_le i0
    have hb : ∀ j : Int, 0 ≤ j → Mk N l k (tMk N.bit j) (tMk N.bit j) := fun j hj => mk_small (mk_bd hN.bit hj (by omega) (by omega)) nf_mk
    have hi : i = 0 ∨ i = 1 := by omega
    by_cases hd : 0 < deep
    · have hk : 1 ≤ k := by have := pre.dk; omega
      rcases hi with rfl | rfl
      · walk_at "kpm"
        refine x_if_t (by simpa using hd) ?_
        walk_at "kpm"
        show Q _ (fixP π π1)
        rw [fx]
        exact q (tMk N.bit 0) (tAp (.leaf (.name N.flip)) (tMk N.bit 1)) π1 (mk_flip hN (b := 1) (.inr rfl) hk) ⟨trivial, by simp only [T.vle]; omega⟩ (hp1.up (by omega))
      · walk_at "kpm"
        refine x_if_t (by simpa using hd) ?_
        walk_at "kpm"
        show Q _ (fixP π π1)
        rw [fx]
        exact q (tMk N.bit 1) (tAp (.leaf (.name N.flip)) (tMk N.bit 0)) π1 (mk_flip hN (b := 0) (.inl rfl) hk) ⟨trivial, by simp only [T.vle]; omega⟩ (hp1.up (by omega))
    · walk_at "kpm"
      refine x_if_f (by simpa using hd) ?_
      walk_at "kpm"
      show Q _ (fixP π π1)
      rw [fx]
      exact q _ _ π1 (hb i i0) (by simp only [T.vle]; omega) (hp1.up (by omega))
  · walk_at "kpm"
    refine x_if_f (decide_eq_false n2) ?_
    walk_at "kpm"
    refine x_if_f (decide_eq_false n3) ?_
    walk_at "kpm"
    by_cases hd : deep < 1
    · refine x_if_t (by simpa using hd) ?_
      walk_at "kpm"
      show Q _ (fixP π π)
      rw [fx]
      exact q (tMk N.tree 0) (tMk N.tree 0) π (mk_small (mk_bd hN.tree (by decide) (by omega) (by omega)) nf_mk) (by simp only [T.vle]; omega) (hp.up (by omega))
    · refine x_if_f (by simpa using hd) ?_
      walk_at "kpm"
      have hk : 1 ≤ k := by have := pre.dk; omega
      have rg : ∀ u ∈ rm ++ [tTh N.num], u.ok ∧ u.dp ≤ 8 := fun u hu => by
        rcases List.mem_append.mp hu with hu | hu
        · exact pre.rg u hu
        · rw [List.mem_singleton] at hu; rw [hu]; exact ⟨hN.num, (by show 1 ≤ 8; decide)⟩
      obtain ⟨pre2, sb, hlt⟩ := pre.down (l' := l) (rm' := rm ++ [tTh N.num]) Sy.tree trivial (.inr ⟨hk, rfl⟩) (by simp) rg
      have hcm := cM_ge hlt
      refine x_catL (by simp only [List.length_map, List.length_cons, List.length_nil]; have := pre.rl; omega) ?_
      walk_at "kpm"
      refine x_pair (rm := rm ++ [tTh N.num]) (by rw [List.map_append]; rfl) pre2 hp (by omega) fun r t π1 hk1 hv1 hp1 => ?_
      walk_at "kpm"
      show Q _ (fixP π π1)
      rw [fx]
      exact q _ _ π1 (mk_tree hN sb hk1) ⟨by simp only [T.vle]; omega, trivial, T.vle_up (pv_mv hlt) hv1⟩ (hp1.up (by omega))
  · have sy : ∃ l', l = l' + 1 ∧ Sy N l' u := by
      have s := pre.sy
      cases s with
      | line h => exact ⟨_, rfl, h⟩
    obtain ⟨l', el, su⟩ := sy
    have ub := su.bd hN (by have := pre.l2; omega)
    have uv : u.vle 20 := pre.sv.2
    have small : Mk N l k (tAp (tMk N.line 0) u) (tAp (tMk N.line 0) u) := mk_small ((Bd.bin .ap (mk_bd hN.line (k := 0) (by decide) (d := 7) (m := 1) (by omega) (by omega)) ub).up (by omega) (by omega)) (nf_ap mh_mk nf_mk su.nf)
    walk_at "kpm"
    refine x_if_f (decide_eq_false n4) ?_
    walk_at "kpm"
    refine x_if_f (decide_eq_false n5) ?_
    walk_at "kpm"
    by_cases hd : deep < 1
    · refine x_if_t (by simpa using hd) ?_
      walk_at "kpm"
      show Q _ (fixP π π)
      rw [fx]
      exact q _ _ π small ⟨by simp only [T.vle]; omega, T.vle_up m20 uv⟩ (hp.up (by omega))
    · refine x_if_f (by simpa using hd) ?_
      walk_at "kpm"
      have hk : 1 ≤ k := by have := pre.dk; omega
      refine x_take hp (by omega) ⟨by decide, by decide⟩ fun i π1 i0 i1 hp1 => ?_
      walk_at "kpm"
      by_cases hi : i = 0
      · subst hi
        walk_at "kpm"
        show Q _ (fixP π π1)
        rw [fx]
        exact q _ _ π1 small ⟨by simp only [T.vle]; omega, T.vle_up m20 uv⟩ (hp1.up (by omega))
      · refine x_if_f (decide_eq_false hi) ?_
        walk_at "kpm"
        obtain ⟨pre2, sb, hlt⟩ := pre.down (rm' := rm) su uv (.inl el) (by omega) pre.rg
        obtain ⟨pre3, sb3, hlt3⟩ := pre.down (rm' := rm) pre.sy pre.sv (.inr ⟨hk, rfl⟩) (by omega) pre.rg
        have hcm := cM_ge hlt3
        have hcc := cP_mono (show l' + (k - 1) ≤ l + (k - 1) by omega)
        refine x_pair (rm := rm) (l := l') (k := k - 1) rfl pre2 hp1 (by omega) fun r t π2 hk1 hv1 hp2 => ?_
        walk_at "kpm"
        refine x_pair (rm := rm) (l := l) (k := k - 1) (S := tAp (tTh N.line) u) rfl pre3 hp2 (by omega) fun r2 t2 π3 hk2 hv2 hp3 => ?_
        walk_at "kpm"
        refine x_f1 (tAp (tMk N.line 1) u, [r, r2]) rfl trivial ?_
        walk_at "kpm"
        refine x_f1 (tAp (tMk N.line 1) u, [t, t2]) rfl trivial ?_
        walk_at "kpm"
        show Q _ (fixP π π3)
        rw [fx]
        exact q _ _ π3 (mk_line hN sb ub su.nf hk1 sb3 hk2) ⟨⟨⟨by simp only [T.vle]; omega, T.vle_up m20 uv⟩, T.vle_up (pv_mv hlt) hv1⟩, T.vle_up (pv_mv hlt3) hv2⟩ (hp3.up (by omega))
end
end Kp
set_option maxRecDepth 100000
set_option maxHeartbeats 8000000
/-! A27: a pair made of a saying -/
namespace Kp
open PySem PySem.Spec L2
theorem x_thing {N : Nm} {m n l k : Nat} {a : Addr} {deep : Int} {rm : List T} {S : T} {ds : List D} {π : Pu} {Q : D → Pu → Prop} (e : ds = [.adr a, nmD N, .lst (rm.map toD), toD S, .int deep]) (pre : PPre N m l k deep rm S ∧ Thg N S) (hp : PuOk n a π) (hc : n + cM (l + k) ≤ 1000000000) (q : ∀ r t π', Mk N l k r t → t.vle (mv l k) → PuOk (n + cM (l + k)) a π' → Q (.tup [toD r, toD t]) π') : sp_thing N m (ds ++ []) π Q :=
  ⟨a, n, l, k, deep, rm, S, by rw [List.append_nil]; exact e, pre, hp, hc, q⟩
section
variable {P : Program} {w : World} {K : PySem.W.Frag} {mg : Str → Option Value} {base : Heap}
theorem sc_law_made : FnScope ["_law_purse_here", "_law_names_here", "_law_room", "_law_saying_here", "_law_deep", "_law_word", "_law_found", "_law_one", "_law_other", "_law_two", "_law_side", "_law_head", "_law_pairs", "_law_part", "_law_pair_here"] ["_law_purse_here", "_law_names_here", "_law_room", "_law_saying_here", "_law_deep"] d_law_made.scope := ⟨rfl, rfl, rfl, by decide +kernel, rfl, by decide +kernel, by decide +kernel⟩
theorem F_made_of (Z : Tx P w K mg base) {N : Nm} (hN : N.Ok) {k0 m : Nat} (h : Fn P w K mg base (GC K) "_law_pair" (k0 + 20) [] (sp_pair N m)) (ht : Fn P w K mg base (GC K) "_law_made_thing" (k0 + 21) [] (sp_thing N (m + 1))) : Fn P w K mg base (GC K) "_law_made" (k0 + 22) [] (sp_made N (m + 1)) := by
  refine fn_m0 Z (k := (k0+21)) 56 rfl rfl rfl rfl sc_law_made (by decide) (fun _ _ _ _ _ _ us hl => match us, hl with | [_, _, _, _, _], _ => rfl) ?hl ?hm (fun f cdv A outer s H E hr => by
    have sc := sc_law_made
    exact (dss_cons (ds_set (i := 5) sc.nd (de_ix ix_seq d2_ix (de_var 3) de_int)) (dss_cons (ds_if (dt_cmp op_eq d2_eqS (de_var 5) de_str (nomark _)) (dss_cons (ds_set (i := 6) sc.nd (de_call (F_saying Z hN 3) (hr.mono (by omega)) (da_cons (de_var 0) (da_cons (de_var 1) (da_cons (de_callB (call_max2 rfl) dc_max rfl Z.f_max rfl (da_cons de_int (da_cons (de_bin op_sub d2_subI (de_var 4) de_int) da_nil))) da_nil))))) (dss_one (ds_ret (de_tup (da_cons (de_var 6) (da_cons (de_var 6) da_nil)))))) dss_nil) (dss_cons (ds_if (dt_cmp op_eq d2_eqS (de_var 5) de_str (nomark _)) (dss_cons (ds_asg (de_call (h) (hr.mono (by omega)) (da_cons (de_var 0) (da_cons (de_var 1) (da_cons (de_bin op_cat d2_catL (de_var 2) (de_lst (da_cons (de_ix ix_seq d2_ix (de_var 3) de_int) da_nil))) (da_cons (de_ix ix_seq d2_ix (de_var 3) de_int) (da_cons (de_bin op_sub d2_subI (de_var 4) de_int) da_nil)))))) (dg_tup rfl (dgs_cons (i := 7) sc.nd (dgs_cons (i := 8) sc.nd dgs_nil)))) (dss_one (ds_ret (de_tup (da_cons (de_tup (da_cons de_str (da_cons (de_ix ix_seq d2_ix (de_var 3) de_int) (da_cons (de_var 7) da_nil)))) (da_cons (de_tup (da_cons de_str (da_cons (de_ix ix_seq d2_ix (de_var 3) de_int) (da_cons (de_var 8) da_nil)))) da_nil)))))) dss_nil) (dss_cons (ds_if (dt_cmp op_eq d2_eqS (de_var 5) de_str (nomark _)) (dss_one (ds_ret (de_bin op_repT d2_rep2 (de_tup (da_cons (de_tup (da_cons de_str (da_cons (de_ix ix_seq d2_ix (de_var 3) de_int) (da_cons (de_ix ix_seq d2_ix (de_var 3) de_int) da_nil)))) da_nil)) de_int))) dss_nil) (dss_cons (ds_if (DW.dt (dw_or (dt_cmp op_eq d2_eqS (de_var 5) de_str (nomark _)) (dw_or1 (DW.dt (dw_and (dt_cmp op_eq d2_eqS (de_var 5) de_str (nomark _)) (dw_and1 (dt_cmp op_eq d2_eqS (de_ix ix_seq d2_ix (de_ix ix_seq d2_ix (de_var 3) de_int) de_int) de_str (nomark _)))))))) (dss_one (ds_ret (de_call (ht) (hr.mono (by omega)) (da_cons (de_var 0) (da_cons (de_var 1) (da_cons (de_var 2) (da_cons (de_var 3) (da_cons (de_var 4) da_nil)))))))) dss_nil) (dss_cons (ds_par (i := 7) (j := 9) rfl sc.nd (da_cons (de_ix ix_seq d2_ix (de_ix ix_seq d2_ix (de_var 3) de_int) de_int) (da_cons (de_ix ix_seq d2_ix (de_var 3) de_int) da_nil))) (dss_cons (ds_set (i := 10) sc.nd (de_call (F_take Z) (hr.mono (by omega)) (da_cons (de_var 0) (da_cons de_int da_nil)))) (dss_cons (ds_set (i := 11) sc.nd (de_call (F_law_app Z) (hr.mono (by omega)) (da_cons (de_tup (da_cons de_str (da_cons (de_ix ix_seq d2_ix (de_ix ix_seq d2_ix (de_ix ix_seq d2_ix (de_var 3) de_int) de_int) de_int) (da_cons de_int da_nil)))) (da_cons (de_lst (da_cons (de_var 7) (da_cons (de_var 9) da_nil))) da_nil)))) (dss_cons (ds_if (dt_cmp op_eq d2_eqS (de_ix ix_seq d2_ix (de_ix ix_seq d2_ix (de_ix ix_seq d2_ix (de_var 3) de_int) de_int) de_int) (de_ix ix_seq d2_ix (de_var 1) de_int) (nomark _)) (dss_cons (ds_setLc (i := 12) rfl sc.nd (di_tup (de_tup (da_cons (de_var 7) (da_cons (de_var 9) da_nil)))) (blkOk_by (N := ["_law_purse_here", "_law_names_here", "_law_room", "_law_saying_here", "_law_deep", "_law_word", "_law_found", "_law_one", "_law_other", "_law_two", "_law_side", "_law_head", "_law_pairs", "_law_part", "_law_pair_here"]) (sc := d_law_made.scope) (own := [("_law_part", 13)]) (by decide +kernel)) (by decide) (fun _ _ _ _ _ => (dg_name (i := 13) sc.nd)) (fun _ _ _ _ _ => (de_call (h) (hr.mono (by omega)) (da_cons (de_var 0) (da_cons (de_var 1) (da_cons (de_var 2) (da_cons (de_var 13) (da_cons (de_bin op_sub d2_subI (de_var 4) de_int) da_nil))))))) rfl) (dss_one (ds_ret (de_tup (da_cons (de_call (F_law_app Z) (hr.mono (by omega)) (da_cons (de_var 11) (da_cons (DL.de (dl_lc rfl sc.nd (di_list (de_var 12)) (blkOk_by (N := ["_law_purse_here", "_law_names_here", "_law_room", "_law_saying_here", "_law_deep", "_law_word", "_law_found", "_law_one", "_law_other", "_law_two", "_law_side", "_law_head", "_law_pairs", "_law_part", "_law_pair_here"]) (sc := d_law_made.scope) (own := [("_law_pair_here", 14)]) (by decide +kernel)) (by decide) (fun _ _ _ _ _ => (dg_name (i := 14) sc.nd)) (fun _ _ _ _ _ => (de_ix ix_seq d2_ix (de_var 14) de_int)))) da_nil))) (da_cons (de_call (F_law_app Z) (hr.mono (by omega)) (da_cons (de_var 11) (da_cons (DL.de (dl_lc rfl sc.nd (di_list (de_var 12)) (blkOk_by (N := ["_law_purse_here", "_law_names_here", "_law_room", "_law_saying_here", "_law_deep", "_law_word", "_law_found", "_law_one", "_law_other", "_law_two", "_law_side", "_law_head", "_law_pairs", "_law_part", "_law_pair_here"]) (sc := d_law_made.scope) (own := [("_law_pair_here", 14)]) (by decide +kernel)) (by decide) (fun _ _ _ _ _ => (dg_name (i := 14) sc.nd)) (fun _ _ _ _ _ => (de_ix ix_seq d2_ix (de_var 14) de_int)))) da_nil))) da_nil)))))) dss_nil) (dss_cons (ds_set (i := 11) sc.nd (de_call (F_law_app Z) (hr.mono (by omega)) (da_cons (de_tup (da_cons de_str (da_cons (de_ix ix_seq d2_ix (de_ix ix_seq d2_ix (de_ix ix_seq d2_ix (de_var 3) de_int) de_int) de_int) (da_cons (de_var 10) da_nil)))) (da_cons (de_lst (da_cons (de_var 7) (da_cons (de_var 9) da_nil))) da_nil)))) (dss_cons (ds_set (i := 14) sc.nd (de_call (h) (hr.mono (by omega)) (da_cons (de_var 0) (da_cons (de_var 1) (da_cons (de_var 2) (da_cons (de_ix ix_seq d2_ix (de_tup (da_cons (de_var 7) (da_cons (de_var 9) da_nil))) (de_var 10)) (da_cons (de_bin op_sub d2_subI (de_var 4) de_int) da_nil))))))) (dss_one (ds_ret (de_tup (da_cons (de_tup (da_cons de_str (da_cons (de_var 11) (da_cons (de_ix ix_seq d2_ix (de_var 14) de_int) da_nil)))) (da_cons (de_tup (da_cons de_str (da_cons (de_var 11) (da_cons (de_ix ix_seq d2_ix (de_var 14) de_int) da_nil)))) da_nil))))))))))))))))) ?hg
  case hl =>
    rintro ds π Q ⟨a, n, l, k, deep, rm, S, e, _⟩
    rw [e]; rfl
  case hm =>
    rintro ds π Q Q' q ⟨a, n, l, k, deep, rm, S, e, h1, h2, h3, h4⟩
    exact ⟨a, n, l, k, deep, rm, S, e, h1, h2, h3, fun r t π' g1 g2 g3 => q _ _ (h4 r t π' g1 g2 g3)⟩
  rintro ds π Q ⟨a, n, l, k, deep, rm, S, e, pre, hp, hc, q⟩
  subst e
  have fx := hp.fix
  have c3 := cM_3 (l + k)
  have m20 : (20 : Int) ≤ mv l k := by unfold mv; omega
  have l2 := pre.l2
  obtain ⟨_, _, _, _, _, n6⟩ := hN.ne
  have sy := pre.sy
  cases sy with
  | num =>
    walk_at "kpm"
    refine x_thing (rm := rm) rfl ⟨pre, .inl rfl⟩ hp hc fun r t π1 h1 h2 h3 => ?_
    walk_at "kpm"
    show Q _ (fixP π π1)
    rw [fx]
    exact q r t π1 h1 h2 h3
  | bit =>
    walk_at "kpm"
    refine x_thing (rm := rm) rfl ⟨pre, .inr (.inl rfl)⟩ hp hc fun r t π1 h1 h2 h3 => ?_
    walk_at "kpm"
    show Q _ (fixP π π1)
    rw [fx]
    exact q r t π1 h1 h2 h3
  | tree =>
    walk_at "kpm"
    refine x_thing (rm := rm) rfl ⟨pre, .inr (.inr (.inl rfl))⟩ hp hc fun r t π1 h1 h2 h3 => ?_
    walk_at "kpm"
    show Q _ (fixP π π1)
    rw [fx]
    exact q r t π1 h1 h2 h3
  | line su =>
    rename_i l' u
    walk_at "kpm"
    refine x_thing (rm := rm) (S := tAp (tTh N.line) u) rfl ⟨pre, .inr (.inr (.inr ⟨u, rfl⟩))⟩ hp hc fun r t π1 h1 h2 h3 => ?_
    walk_at "kpm"
    show Q _ (fixP π π1)
    rw [fx]
    exact q r t π1 h1 h2 h3
  | same hx nx =>
    rename_i x
    walk_at "kpm"
    show Q _ (fixP π π)
    rw [fx]
    exact q (.bin .sf (tTh N.num) x) (.bin .sf (tTh N.num) x) π (mk_small ((Bd.bin .sf (th_bd hN.num (d := 2) (m := 1) (by omega) (by omega)) hx).up (by omega) (by omega)) (nf_sf nf_th nx)) ⟨trivial, T.vle_up m20 pre.sv.2.1⟩ (hp.up (by omega))
  | all sa sb =>
    rename_i l' x y
    have rg : ∀ u ∈ rm ++ [x], u.ok ∧ u.dp ≤ 8 := fun u hu => by
      rcases List.mem_append.mp hu with hu | hu
      · exact pre.rg u hu
      · rw [List.mem_singleton] at hu
        have := sa.bd hN (by omega)
        rw [hu]; exact ⟨this.ok, by have := this.dp; omega⟩
    obtain ⟨pre2, su, hlt⟩ := pre.down (rm' := rm ++ [x]) sb pre.sv.2 (.inl rfl) (by simp) rg
    have hcm := cM_ge hlt
    walk_at "kpm"
    refine x_catL (by simp only [List.length_map, List.length_cons, List.length_nil]; have := pre.rl; omega) ?_
    walk_at "kpm"
    refine x_pair (rm := rm ++ [x]) (S := y) (by rw [List.map_append]; rfl) pre2 hp (by omega) fun r t π1 hk1 hv1 hp1 => ?_
    walk_at "kpm"
    show Q _ (fixP π π1)
    rw [fx]
    exact q (tFn x r) (tFn x t) π1 (mk_lam su (sa.bd hN (by omega)) sa.nf hk1) ⟨T.vle_up m20 pre.sv.1, T.vle_up (pv_mv hlt) hv1⟩ (hp1.up (by omega))
  | both sa sb =>
    rename_i l' x y
    obtain ⟨pre1, su1, hlt1⟩ := pre.down (rm' := rm) sa pre.sv.1.2 (.inl rfl) (by omega) pre.rg
    obtain ⟨pre2, su2, hlt2⟩ := pre.down (rm' := rm) sb pre.sv.2 (.inl rfl) (by omega) pre.rg
    have hcm := cM_ge hlt1
    have xb := sa.bd hN (by omega)
    have yb := sb.bd hN (by omega)
    walk_at "kpm"
    refine x_take hp (by omega) ⟨by decide, by decide⟩ fun i π1 i0 i1 hp1 => ?_
    walk_at "kpm"
    refine x_f1 (tMk N.both 0, [x, y]) rfl trivial ?_
    walk_at "kpm"
    refine x_pair (rm := rm) (S := x) rfl pre1 hp1 (by omega) fun r t π2 hk1 hv1 hp2 => ?_
    walk_at "kpm"
    refine x_pair (rm := rm) (S := y) rfl pre2 hp2 (by omega) fun r2 t2 π3 hk2 hv2 hp3 => ?_
    walk_at "kpm"
    refine x_f1 (applyT (tMk N.both 0) [x, y], [r, r2]) rfl trivial ?_
    walk_at "kpm"
    refine x_f1 (applyT (tMk N.both 0) [x, y], [t, t2]) rfl trivial ?_
    walk_at "kpm"
    show Q _ (fixP π π3)
    rw [fx]
    exact q _ _ π3 (mk_both hN su1 xb sa.nf yb sb.nf hk1 hk2) ⟨⟨⟨⟨by simp only [T.vle]; omega, T.vle_up m20 pre.sv.1.2⟩, T.vle_up m20 pre.sv.2⟩, T.vle_up (pv_mv hlt1) hv1⟩, T.vle_up (pv_mv hlt2) hv2⟩ (hp3.up (by omega))
  | either sa sb =>
    rename_i l' x y
    obtain ⟨pre1, su1, hlt1⟩ := pre.down (rm' := rm) sa pre.sv.1.2 (.inl rfl) (by omega) pre.rg
    obtain ⟨pre2, su2, hlt2⟩ := pre.down (rm' := rm) sb pre.sv.2 (.inl rfl) (by omega) pre.rg
    have hcm := cM_ge hlt1
    have xb := sa.bd hN (by omega)
    have yb := sb.bd hN (by omega)
    walk_at "kpm"
    refine x_take hp (by omega) ⟨by decide, by decide⟩ fun i π1 i0 i1 hp1 => ?_
    walk_at "kpm"
    refine x_f1 (tMk N.either 0, [x, y]) rfl trivial ?_
    walk_at "kpm"
    refine x_if_f (decide_eq_false (fun e => n6 e.symm)) ?_
    walk_at "kpm"
    refine x_f1 (tMk N.either i, [x, y]) rfl trivial ?_
    have hi : i = 0 ∨ i = 1 := by omega
    rcases hi with rfl | rfl
    · walk_at "kpm"
      refine x_pair (rm := rm) (S := x) rfl pre1 hp1 (by omega) fun r t π2 hk1 hv1 hp2 => ?_
      walk_at "kpm"
      show Q _ (fixP π π2)
      rw [fx]
      exact q _ _ π2 (mk_either (i := 0) (by decide) hN su1 xb sa.nf yb sb.nf hk1) ⟨⟨⟨by simp only [T.vle]; omega, T.vle_up m20 pre.sv.1.2⟩, T.vle_up m20 pre.sv.2⟩, T.vle_up (pv_mv hlt1) hv1⟩ (hp2.up (by omega))
    · walk_at "kpm"
      refine x_pair (rm := rm) (S := y) rfl pre2 hp1 (by omega) fun r t π2 hk1 hv1 hp2 => ?_
      walk_at "kpm"
      show Q _ (fixP π π2)
      rw [fx]
      exact q _ _ π2 (mk_either (i := 1) (by decide) hN su2 xb sa.nf yb sb.nf hk1) ⟨⟨⟨by simp only [T.vle]; omega, T.vle_up m20 pre.sv.1.2⟩, T.vle_up m20 pre.sv.2⟩, T.vle_up (pv_mv hlt2) hv1⟩ (hp2.up (by omega))
end
end Kp
set_option maxRecDepth 100000
set_option maxHeartbeats 8000000
/-! A28: a pair -/
namespace Kp
open PySem PySem.Spec L2
theorem x_made {N : Nm} {m n l k : Nat} {a : Addr} {deep : Int} {rm : List T} {S : T} {ds : List D} {π : Pu} {Q : D → Pu → Prop} (e : ds = [.adr a, nmD N, .lst (rm.map toD), toD S, .int deep]) (pre : PPre N m l k deep rm S) (hp : PuOk n a π) (hc : n + cM (l + k) ≤ 1000000000) (q : ∀ r t π', Mk N l k r t → t.vle (mv l k) → PuOk (n + cM (l + k)) a π' → Q (.tup [toD r, toD t]) π') : sp_made N m (ds ++ []) π Q :=
  ⟨a, n, l, k, deep, rm, S, by rw [List.append_nil]; exact e, pre, hp, hc, q⟩
theorem x_larger {N : Nm} {a : Addr} {n l d m f : Nat} {B : Int} {room : D} {r t S : T} {π : Pu} {Q : D → Pu → Prop} (pre : LgPre N l d m f B r t S) (hp : PuOk n a π) (hc : n + 10 ≤ 1000000000) (q : ∀ t' π', Lg N d m f r t' → t'.vle (B + 1) → PuOk (n + 10) a π' → Q (toD t') π') : sp_larger N ([.adr a, nmD N, room, toD t, toD S] ++ []) π Q :=
  ⟨a, n, room, l, d, m, f, B, r, t, S, rfl, pre, hp, hc, q⟩
/-- a statement behind, kept closed -/
theorem x_seqH {A : DEnds} {ρ ρ' : DEnv} {π : Pu} {g h : DTs} (k : DTs) (e : h = k) (er : ρ = ρ') (q : g { A with nx := k A } ρ' π) : dSeq g h A ρ π := by
  subst e er
  exact q
theorem rngD_mem {lo : Int} {n : Nat} {d : D} (h : d ∈ rngD lo n) : ∃ i : Nat, i < n ∧ d = .int (lo + (i : Nat)) := by
  unfold rngD at h
  obtain ⟨i, h1, h2⟩ := List.mem_map.mp h
  exact ⟨i, List.mem_range.mp h1, h2.symm⟩
theorem eqd_ints_nil (is : List Int) : eqd (.lst (is.map .int)) (.lst []) = decide (is = []) := by
  cases is with
  | nil => rfl
  | cons i is => rw [List.map_cons, eqd_n0]; simp
section
variable {P : Program} {w : World} {K : PySem.W.Frag} {mg : Str → Option Value} {base : Heap}
theorem sc_law_pair : FnScope ["_law_purse_here", "_law_names_here", "_law_room", "_law_saying_here", "_law_deep", "_law_found", "_law_k", "_law_pair_here", "_law_turn"] ["_law_purse_here", "_law_names_here", "_law_room", "_law_saying_here", "_law_deep"] d_law_pair.scope := ⟨rfl, rfl, rfl, by decide +kernel, rfl, by decide +kernel, by decide +kernel⟩
theorem F_pair_of (Z : Tx P w K mg base) {N : Nm} (hN : N.Ok) {k0 m : Nat} (h : Fn P w K mg base (GC K) "_law_made" (k0 + 60) [] (sp_made N (m + 1))) : Fn P w K mg base (GC K) "_law_pair" (k0 + 61) [] (sp_pair N (m + 1)) := by
  refine fn_m0 Z (k := (k0+60)) 55 rfl rfl rfl rfl sc_law_pair (by decide) (fun _ _ _ _ _ _ us hl => match us, hl with | [_, _, _, _, _], _ => rfl) ?hl ?hm (fun f cdv A outer s H E hr => by
    have sc := sc_law_pair
    exact (dss_cons (ds_setLcI (i := 5) rfl sc.nd (di_range1 rfl Z.f_range (da_cons (de_callB call_len dc_len rfl Z.f_len rfl (da_cons (de_var 2) da_nil)) da_nil)) (blkOk_by (N := ["_law_purse_here", "_law_names_here", "_law_room", "_law_saying_here", "_law_deep", "_law_found", "_law_k", "_law_pair_here", "_law_turn"]) (sc := d_law_pair.scope) (own := [("_law_k", 6)]) (by decide +kernel)) (by decide) (fun _ _ _ _ _ => (dg_name (i := 6) sc.nd)) (fun _ _ _ _ _ => (dt_cmp (op_eqD hr.units) d2_eqD (de_call (F_law_raised Z 56) (hr.mono (by omega)) (da_cons (de_ix ix_seq d2_ix (de_var 2) (de_bin op_sub d2_subI (de_bin op_sub d2_subI (de_callB call_len dc_len rfl Z.f_len rfl (da_cons (de_var 2) da_nil)) de_int) (de_var 6))) (da_cons (de_bin op_add d2_addI (de_var 6) de_int) (da_cons de_int da_nil)))) (de_var 3) (nomark _))) (fun _ _ _ _ _ => (de_var 6)) rfl) (dss_cons (ds_if (DW.dt (dw_and (dt_cmp (op_neD hr.units) d2_neD (de_var 5) (de_lst da_nil) (nomark _)) (dw_and1 (dt_cmp op_eq d2_eqS (de_call (F_take Z) (hr.mono (by omega)) (da_cons (de_var 0) (da_cons de_int da_nil))) de_int (nomark _))))) (dss_one (ds_set (i := 7) sc.nd (de_bin op_repT d2_rep2 (de_tup (da_cons (de_tup (da_cons de_str (da_cons (de_ix ix_seq d2_ix (de_var 5) (de_call (F_take Z) (hr.mono (by omega)) (da_cons (de_var 0) (da_cons (de_callB call_len dc_len rfl Z.f_len rfl (da_cons (de_var 5) da_nil)) da_nil)))) da_nil))) da_nil)) de_int))) (dss_one (ds_set (i := 7) sc.nd (de_call (h) (hr.mono (by omega)) (da_cons (de_var 0) (da_cons (de_var 1) (da_cons (de_var 2) (da_cons (de_var 3) (da_cons (de_var 4) da_nil))))))))) (dss_cons (ds_for (di_range1 rfl Z.f_range (da_cons (de_if (dt_cmp op_gt d2_gt (de_var 4) de_int (nomark _)) (de_call (F_take Z) (hr.mono (by omega)) (da_cons (de_var 0) (da_cons de_int da_nil))) de_int) da_nil)) (dg_name (i := 8) sc.nd) (dss_one (ds_set (i := 7) sc.nd (de_tup (da_cons (de_ix ix_seq d2_ix (de_var 7) de_int) (da_cons (de_call (F_larger Z hN) (hr.mono (by omega)) (da_cons (de_var 0) (da_cons (de_var 1) (da_cons (de_var 2) (da_cons (de_ix ix_seq d2_ix (de_var 7) de_int) (da_cons (de_var 3) da_nil)))))) da_nil)))))) (dss_one (ds_ret (de_var 7))))))) ?hg
  case hl =>
    rintro ds π Q ⟨a, n, l, k, deep, rm, S, e, _⟩
    rw [e]; rfl
  case hm =>
    rintro ds π Q Q' q ⟨a, n, l, k, deep, rm, S, e, h1, h2, h3, h4⟩
    exact ⟨a, n, l, k, deep, rm, S, e, h1, h2, h3, fun r t π' g1 g2 g3 => q _ _ (h4 r t π' g1 g2 g3)⟩
  rintro ds π Q ⟨a, n, l, k, deep, rm, S, e, pre, hp, hc, q⟩
  subst e
  have fx := hp.fix
  have hcp := cM_cP (l + k)
  have m20 : (20 : Int) ≤ mv l k := by unfold mv; omega
  have l2 := pre.l2
  have Sb := pre.sy.bd hN l2
  have hrl := pre.rl
  have mv2 : mv l k ≤ 28 := by have := pre.k2; unfold mv; omega
  -- the loop
  have fin : ∀ (r t : T) (n1 : Nat) (π1 : Pu) (fo : D) (z z2 : Sl), Mk N l k r t → t.vle (mv l k) → PuOk n1 a π1 → n1 + 21 ≤ n + cP (l + k) →
      dSeq (dFor (dRng1 (dCons (dIf (dTst (dBin kGt (dVar 4) (dC (.int 0)))) (dOwn sp_take [] (dCons (dVar 0) (dCons (dC (.int 3)) dNil))) (dC (.int 0))) dNil)) (.one 8) (dAsg (dTup (dCons (dBin kIx (dVar 7) (dC (.int 0))) (dCons (dOwn (sp_larger N) [] (dCons (dVar 0) (dCons (dVar 1) (dCons (dVar 2) (dCons (dBin kIx (dVar 7) (dC (.int 1))) (dCons (dVar 3) dNil)))))) dNil))) (.one 7))) (dRet (dVar 7)) { nx := fun _ π' => Q .non (fixP π π'), rt := fun d π' => Q d (fixP π π') }
        [.pu (.adr a), .pu (nmD N), .pu (.lst (rm.map toD)), .pu (toD S), .pu (.int deep), .pu fo, z, .pu (.tup [toD r, toD t]), z2] π1 := by
    intro r t n1 π1 fo z z2 hm hv hp1 hn1
    by_cases hd : 0 < deep
    · have hk : 1 ≤ k := by have := pre.dk; omega
      walk_at "kpm"
      refine x_if_t (by simpa using hd) ?_
      walk_at "kpm"
      refine x_take hp1 (by omega) ⟨by decide, by decide⟩ fun j π2 j0 j1 hp2 => ?_
      walk_at "kpm"
      refine ⟨by omega, by omega, ?_⟩
      refine foD_inv (I := fun ds ρ π' => ∃ (i : Nat) (t' : T) (z3 : Sl), i + ds.length ≤ 2 ∧ Lk N l k i r t' ∧ t'.vle (mv l k + i) ∧ PuOk (n1 + 1 + 10 * i) a π' ∧ ρ = [.pu (.adr a), .pu (nmD N), .pu (.lst (rm.map toD)), .pu (toD S), .pu (.int deep), .pu fo, z, .pu (.tup [toD r, toD t']), z3]) ?_ ?_ ⟨0, t, _, by simp [rngD]; omega, hm, by simpa using hv, hp2, rfl⟩
      · rintro ρ π' ⟨i, t', z3, h1, h2, h3, h4, rfl⟩
        walk_at "kpm"
        show Q _ (fixP π π')
        rw [fx]
        have hi : i ≤ 2 := by simpa using h1
        exact q r t' π' (h2.pk hk) (T.vle_up (by unfold pv mv; omega) h3) (h4.up (by omega))
      · rintro d ds ρ π' B ⟨i, t', z3, h1, h2, h3, h4, rfl⟩ hB
        simp only [List.length_cons] at h1
        obtain ⟨d', m', f', g1, g2, g3, g4, g5⟩ := h2.next hk (by omega)
        walk_at "kpm"
        refine x_larger (B := mv l k + i) ⟨pre.sy, l2, g1, g2, g3, g4, by omega, by omega, h3, T.vle_up (by omega) pre.sv⟩ h4 (by omega) fun t2 π3 a1 a2 a3 => ?_
        walk_at "kpm"
        exact hB _ _ ⟨i + 1, t2, _, by omega, g5 t2 a1, T.vle_up (by omega) a2, a3.up (by omega), rfl⟩
    · walk_at "kpm"
      refine x_if_f (by simpa using hd) ?_
      walk_at "kpm"
      refine ⟨by decide, by decide, ?_⟩
      walk_at "kpm"
      show Q _ (fixP π π1)
      rw [fx]
      exact q r t π1 hm.pk (T.vle_up (by unfold pv mv; omega) hv) (hp1.up (by omega))
  obtain ⟨Kx, hK1, hK2⟩ := (⟨_, rfl, fin⟩ : ∃ Kx : DTs, (dSeq (dFor (dRng1 (dCons (dIf (dTst (dBin kGt (dVar 4) (dC (.int 0)))) (dOwn sp_take [] (dCons (dVar 0) (dCons (dC (.int 3)) dNil))) (dC (.int 0))) dNil)) (.one 8) (dAsg (dTup (dCons (dBin kIx (dVar 7) (dC (.int 0))) (dCons (dOwn (sp_larger N) [] (dCons (dVar 0) (dCons (dVar 1) (dCons (dVar 2) (dCons (dBin kIx (dVar 7) (dC (.int 1))) (dCons (dVar 3) dNil)))))) dNil))) (.one 7))) (dRet (dVar 7))) = Kx ∧
    ∀ (r t : T) (n1 : Nat) (π1 : Pu) (fo : D) (z z2 : Sl), Mk N l k r t → t.vle (mv l k) → PuOk n1 a π1 → n1 + 21 ≤ n + cP (l + k) → Kx { nx := fun _ π' => Q .non (fixP π π'), rt := fun d π' => Q d (fixP π π') } [.pu (.adr a), .pu (nmD N), .pu (.lst (rm.map toD)), .pu (toD S), .pu (.int deep), .pu fo, z, .pu (.tup [toD r, toD t]), z2] π1)
  clear fin
  walk_at "kpm"
  refine x_len rfl (by simp only [List.length_map]; omega) ?_
  walk_at "kpm"
  simp only [List.length_map]
  refine ⟨by omega, by omega, ?_⟩
  refine lcI_inv (I := fun ds acc π' => (∀ d ∈ ds, ∃ i : Nat, i < rm.length ∧ d = .int i) ∧ (∃ is : List Int, acc = is.map .int ∧ is.length + ds.length ≤ rm.length ∧ ∀ i ∈ is, 0 ≤ i ∧ i < rm.length) ∧ π' = π) ?_ ?_ ⟨fun d hd => ?_, ⟨[], rfl, by simp [rngD], fun _ h => nomatch h⟩, rfl⟩
  · rintro acc π' ⟨_, ⟨is, rfl, hl, hi⟩, rfl⟩
    simp only [List.length_nil, Nat.add_zero] at hl
    refine x_seqH (ρ' := [.pu (.adr a), .pu (nmD N), .pu (.lst (rm.map toD)), .pu (toD S), .pu (.int deep), .pu (.lst (is.map .int)), .no, .no, .no]) Kx hK1 rfl ?_
    walk_at "kpm"
    refine x_eqD (by simp only [dat]; exact dats_ints is) rfl (by simp only [dep, deps_ints]; decide) (by decide) ?_
    rw [eqd_ints_nil]
    walk_at "kpm"
    by_cases hz : is = []
    · subst hz
      walk_at "kpm"
      refine x_made (rm := rm) rfl pre hp (by omega) fun r t π2 h1 h2 h3 => ?_
      walk_at "kpm"
      exact hK2 r t _ π2 _ _ _ h1 h2 h3 (by omega)
    · have hlen : 0 < is.length := List.length_pos_iff.mpr hz
      refine x_if_t (by simp [hz]) ?_
      walk_at "kpm"
      refine x_take hp (by omega) ⟨by decide, by decide⟩ fun i π1 i0 i1 hp1 => ?_
      walk_at "kpm"
      by_cases h0 : i = 0
      · refine x_if_t (decide_eq_true h0) ?_
        walk_at "kpm"
        refine x_len rfl (by simp only [List.length_map]; omega) ?_
        walk_at "kpm"
        refine x_take hp1 (by omega) ⟨by simp only [List.length_map]; omega, by simp only [List.length_map]; omega⟩ fun j π2 j0 j1 hp2 => ?_
        obtain ⟨j, rfl⟩ := Int.eq_ofNat_of_zero_le j0
        simp only [List.length_map] at j1
        have hj : j < is.length := by omega
        have hb := hi _ (List.getElem_mem hj)
        refine x_ixL (d := .int is[j]) (by rw [atI_nat, List.getElem?_map, List.getElem?_eq_getElem hj]; rfl) ?_
        walk_at "kpm"
        exact hK2 (.var is[j]) (.var is[j]) _ π2 _ _ _ (mk_small (bd_var hb.1 (by omega) (by omega)) nf_var) (by simp only [T.vle]; omega) hp2 (by omega)
      · refine x_if_f (decide_eq_false h0) ?_
        walk_at "kpm"
        refine x_made (rm := rm) rfl pre hp1 (by omega) fun r t π2 h1 h2 h3 => ?_
        walk_at "kpm"
        exact hK2 r t _ π2 _ _ _ h1 h2 h3 (by omega)
  · rintro d ds acc π' B ⟨hd, ⟨is, rfl, hl, hi⟩, rfl⟩ hB
    obtain ⟨i, h1, rfl⟩ := hd d List.mem_cons_self
    simp only [List.length_cons] at hl
    refine ⟨by rw [List.length_map]; omega, ?_⟩
    have hlt : rm.length - 1 - i < rm.length := by omega
    have hu := pre.rg _ (List.getElem_mem hlt)
    have hr : (rm[rm.length - 1 - i].raise (i + 1) 0).ok := raise_ok (by omega) 0 hu.1
    walk_at "kpm"
    refine x_len rfl (by simp only [List.length_map]; omega) ?_
    walk_at "kpm"
    simp only [List.length_map]
    refine x_ixL (d := toD rm[rm.length - 1 - i]) (by rw [show ((rm.length : Nat) : Int) - 1 - (i : Nat) = ((rm.length - 1 - i : Nat) : Int) from by omega, atI_nat, List.getElem?_map, List.getElem?_eq_getElem hlt]; rfl) ?_
    walk_at "kpm"
    refine x_raise (by have := hu.2; omega) (by omega) (by omega) ?_
    walk_at "kpm"
    refine x_eqD (T.dat hr) (T.dat Sb.ok) (by rw [T.depD, raise_dp]; have := hu.2; omega) (by rw [T.depD]; have := Sb.dp; omega) ?_
    walk_at "kpm"
    have hd' : ∀ d ∈ ds, ∃ i : Nat, i < rm.length ∧ d = .int i := fun d h => hd d (List.mem_cons_of_mem _ h)
    cases he : eqd (toD (rm[rm.length - 1 - i].raise (i + 1) 0)) (toD S) with
    | true =>
      walk_at "kpm"
      refine hB _ _ ⟨hd', ⟨is ++ [(i : Int)], by simp, by simp; omega, fun z hz => ?_⟩, rfl⟩
      rcases List.mem_append.mp hz with hz | hz
      · exact hi z hz
      · rw [List.mem_singleton] at hz; rw [hz]; exact ⟨by omega, by omega⟩
    | false =>
      walk_at "kpm"
      exact hB _ _ ⟨hd', ⟨is, rfl, by omega, hi⟩, rfl⟩
  · obtain ⟨i, h1, h2⟩ := rngD_mem hd
    exact ⟨i, by simpa using h1, by rw [h2]; simp⟩
theorem F_pair (Z : Tx P w K mg base) {N : Nm} (hN : N.Ok) : ∀ m : Nat, Fn P w K mg base (GC K) "_law_pair" (3 * m + 60) [] (sp_pair N m)
  | 0 => by
    refine fn_void Z 55 rfl rfl rfl rfl (ps := ["_law_purse_here", "_law_names_here", "_law_room", "_law_saying_here", "_law_deep"]) (fun _ _ _ _ _ _ us hl => match us, hl with | [_, _, _, _, _], _ => rfl) ?_
    rintro ds π Q ⟨a, n, l, k, deep, rm, S, e, pre, _⟩
    exact absurd pre.lt (Nat.not_lt_zero _)
  | m + 1 => by
    have h := F_pair Z hN m
    have h1 := F_made_thing_of Z hN (k0 := 3 * m + 59) h
    have h2 := F_made_of Z hN (k0 := 3 * m + 40) h h1
    have h3 := F_pair_of Z hN (k0 := 3 * m + 2) h2
    exact h3.up (by omega)
end
end Kp
set_option maxRecDepth 100000
set_option maxHeartbeats 4000000
/-! A12: steps, stepped, next_of -/
namespace Kp
open PySem PySem.Spec L2
section
variable {P : Program} {w : World} {K : PySem.W.Frag} {mg : Str → Option Value} {base : Heap}
theorem sc_need_term : FnScope ["thing"] ["thing"] d_need_term.scope := ⟨rfl, rfl, rfl, by decide +kernel, rfl, by decide +kernel, by decide +kernel⟩
theorem F_need_term (Z : Tx P w K mg base) : Fn P w K mg base (GC K) "need_term" 118 [] (spF (fun t : T => [toD t]) (fun t => t.ok ∧ t.dp ≤ 58) fun _ => .non) := by
  refine fn_p0 Z (k := 117) 6 rfl rfl rfl rfl sc_need_term (by decide) (fun _ _ _ _ _ _ us hl => match us, hl with | [_], _ => rfl) (fun _ => rfl) (fun f cdv A outer s H E hr => by
    have sc := sc_need_term
    exact (dss_one (ds_if (dt_not (dt_val (de_call (F_is_term Z 58) (hr.mono (by omega)) (da_cons (de_var 0) da_nil)))) (dss_one ds_never) dss_nil))) ?hg
  rintro t π ⟨h1, h2⟩
  walk_at "kpe"
  refine x_f1 t rfl ⟨h1, h2⟩ ?_
  walk_at "kpe"
  exact ⟨rfl, rfl⟩
theorem sc_steps : FnScope ["ground", "term"] ["ground", "term"] d_steps.scope := ⟨rfl, rfl, rfl, by decide +kernel, rfl, by decide +kernel, by decide +kernel⟩
theorem F_steps (Z : Tx P w K mg base) {N : Nm} (hN : N.Ok) : Fn P w K mg base (GC K) "steps" 181 [] (spF (fun t : T => [gD N, toD t]) (fun t => Gd N t) fun t => .lst ((stepsT N t).map stpD)) := by
  refine fn_p0 Z (k := 180) 37 rfl rfl rfl rfl sc_steps (by decide) (fun _ _ _ _ _ _ us hl => match us, hl with | [_, _], _ => rfl) (fun _ => rfl) (fun f cdv A outer s H E hr => by
    have sc := sc_steps
    exact (dss_cons (ds_expr (de_call (F_need_ground Z) (hr.mono (by omega)) (da_cons (de_var 0) da_nil))) (dss_cons (ds_expr (de_call (F_need_term Z) (hr.mono (by omega)) (da_cons (de_var 1) da_nil))) (dss_one (ds_ret (de_call (F_steps_in Z hN 58 (by omega)) (hr.mono (by omega)) (da_cons (de_var 0) (da_cons (de_var 1) da_nil)))))))) ?hg
  rintro t π h
  have hd := h.dp
  walk_at "kpe"
  refine x_f1 (N.all, wRows N) rfl trivial ?_
  walk_at "kpe"
  refine x_f1 t rfl ⟨h.ok, by omega⟩ ?_
  walk_at "kpe"
  refine x_f1 t rfl ⟨h.ok, by omega, h.ea, h.sz⟩ ?_
  walk_at "kpe"
  exact ⟨rfl, rfl⟩
theorem sc_step_at : FnScope ["ground", "term", "spot", "here"] ["ground", "term", "spot"] d_step_at.scope := ⟨rfl, rfl, rfl, by decide +kernel, rfl, by decide +kernel, by decide +kernel⟩
theorem F_step_at (Z : Tx P w K mg base) {N : Nm} (hN : N.Ok) : Fn P w K mg base (GC K) "step_at" 123 [] (spF (fun a : T × List Int × T × Int × Str × T => [gD N, toD a.1, spD a.2.1]) (fun a => Gd N a.1 ∧ a.1.part a.2.1 = some (a.2.2.1, a.2.2.2.1) ∧ goneT N a.2.2.1 = some a.2.2.2.2) fun a => toD (a.1.put a.2.1 a.2.2.2.2.2)) := by
  refine fn_p0 Z (k := 122) 38 rfl rfl rfl rfl sc_step_at (by decide) (fun _ _ _ _ _ _ us hl => match us, hl with | [_, _, _], _ => rfl) (fun _ => rfl) (fun f cdv A outer s H E hr => by
    have sc := sc_step_at
    exact (dss_cons (ds_if (DW.dt (dw_or (dt_not (dt_val (de_call (F_is_spot Z) (hr.mono (by omega)) (da_cons (de_var 2) da_nil)))) (dw_or1 (dt_cmp (op_notInD hr.units1) d2_notInD (de_var 2) (de_call (F_spots_in Z 60 (by omega)) (hr.mono (by omega)) (da_cons (de_var 1) da_nil)) rfl)))) (dss_one ds_never) dss_nil) (dss_cons (ds_set (i := 3) sc.nd (de_call (F_gone Z hN) (hr.mono (by omega)) (da_cons (de_var 0) (da_cons (de_ix ix_seq d2_ix (de_call (F_gone_to Z) (hr.mono (by omega)) (da_cons (de_var 1) (da_cons (de_var 2) da_nil))) de_int) da_nil)))) (dss_cons (ds_if (dt_cmp op_isN d2_isN (de_var 3) de_non (nomark _)) (dss_one ds_never) dss_nil) (dss_one (ds_ret (de_call (F_put_at Z 60) (hr.mono (by omega)) (da_cons (de_var 1) (da_cons (de_var 2) (da_cons (de_ix ix_seq d2_ix (de_var 3) de_int) da_nil)))))))))) ?hg
  rintro ⟨t, sp, u, c, p⟩ π ⟨hg, h1, h2⟩
  simp only at hg h1 h2
  obtain ⟨⟨a1, a2, a3⟩, a4, a5, a6⟩ := part_good (N := N) h1
  have hd := hg.dp
  have len := t.spots_length
  have hsz := hg.sz
  have dsp := deps_spots t.spots
  walk_at "kpe"
  refine x_f1 sp rfl ⟨by omega, a3⟩ ?_
  walk_at "kpe"
  refine x_f1 t rfl ⟨by omega, hsz⟩ ?_
  refine ⟨t.spots.map spD, rfl, dat_spD _, dats_spots _, by simp, by omega, ?_⟩
  simp only [any_spots, a1]
  walk_at "kpe"
  refine x_f1 (t, sp, u, c) rfl ⟨h1, by simp only; omega, a3⟩ ?_
  walk_at "kpe"
  refine x_f1 u rfl ⟨a4 hg.ok, by omega, a6 hg.ea⟩ ?_
  simp only [h2, ruleD]
  walk_at "kpe"
  refine x_f1 (t, sp, p.2) rfl ⟨by simp [h1], by simp only; omega⟩ ?_
  walk_at "kpe"
  exact ⟨rfl, rfl⟩
theorem sc_stepped : FnScope ["ground", "term", "spot"] ["ground", "term", "spot"] d_stepped.scope := ⟨rfl, rfl, rfl, by decide +kernel, rfl, by decide +kernel, by decide +kernel⟩
theorem F_stepped (Z : Tx P w K mg base) {N : Nm} (hN : N.Ok) : Fn P w K mg base (GC K) "stepped" 124 [] (spF (fun a : T × List Int × T × Int × Str × T => [gD N, toD a.1, spD a.2.1]) (fun a => Gd N a.1 ∧ a.1.part a.2.1 = some (a.2.2.1, a.2.2.2.1) ∧ goneT N a.2.2.1 = some a.2.2.2.2) fun a => toD (a.1.put a.2.1 a.2.2.2.2.2)) := by
  refine fn_p0 Z (k := 123) 39 rfl rfl rfl rfl sc_stepped (by decide) (fun _ _ _ _ _ _ us hl => match us, hl with | [_, _, _], _ => rfl) (fun _ => rfl) (fun f cdv A outer s H E hr => by
    have sc := sc_stepped
    exact (dss_cons (ds_expr (de_call (F_need_ground Z) (hr.mono (by omega)) (da_cons (de_var 0) da_nil))) (dss_cons (ds_expr (de_call (F_need_term Z) (hr.mono (by omega)) (da_cons (de_var 1) da_nil))) (dss_one (ds_ret (de_call (F_step_at Z hN) (hr.mono (by omega)) (da_cons (de_var 0) (da_cons (de_var 1) (da_cons (de_var 2) da_nil))))))))) ?hg
  rintro ⟨t, sp, u, c, p⟩ π ⟨hg, h1, h2⟩
  simp only at hg h1 h2
  have hd := hg.dp
  walk_at "kpe"
  refine x_f1 (N.all, wRows N) rfl trivial ?_
  walk_at "kpe"
  refine x_f1 t rfl ⟨hg.ok, by omega⟩ ?_
  walk_at "kpe"
  refine x_f1 (t, sp, u, c, p) rfl ⟨hg, h1, h2⟩ ?_
  walk_at "kpe"
  exact ⟨rfl, rfl⟩
theorem sc_next_of : FnScope ["ground", "term", "here"] ["ground", "term"] d_next_of.scope := ⟨rfl, rfl, rfl, by decide +kernel, rfl, by decide +kernel, by decide +kernel⟩
theorem F_next_of (Z : Tx P w K mg base) {N : Nm} (hN : N.Ok) : Fn P w K mg base (GC K) "next_of" 123 [] (spF (fun a : T × Str × T => [gD N, toD a.1]) (fun a => (a.1.ok ∧ a.1.dp ≤ 58 ∧ a.1.eats N) ∧ goneT N a.1 = some a.2) fun a => toD a.2.2) := by
  refine fn_p0 Z (k := 122) 40 rfl rfl rfl rfl sc_next_of (by decide) (fun _ _ _ _ _ _ us hl => match us, hl with | [_, _], _ => rfl) (fun _ => rfl) (fun f cdv A outer s H E hr => by
    have sc := sc_next_of
    exact (dss_cons (ds_set (i := 2) sc.nd (de_call (F_gone Z hN) (hr.mono (by omega)) (da_cons (de_var 0) (da_cons (de_var 1) da_nil)))) (dss_one (ds_ret (de_if (dt_cmp op_isN d2_isN (de_var 2) de_non (nomark _)) (de_var 1) (de_ix ix_seq d2_ix (de_var 2) de_int)))))) ?hg
  rintro ⟨t, p⟩ π ⟨h1, h2⟩
  simp only at h1 h2
  walk_at "kpe"
  refine x_f1 t rfl h1 ?_
  simp only [h2, ruleD]
  walk_at "kpe"
  exact ⟨rfl, rfl⟩
end
end Kp
set_option maxRecDepth 100000
set_option maxHeartbeats 4000000
/-! A13: first_step, gone_way, worked -/
namespace Kp
open PySem PySem.Spec L2
def spO (o : Option (List Int)) : D := match o with
  | none => .non
  | some sp => spD sp
theorem firstT_short {N : Nm} {t : T} {sp : List Int} (h : firstT N t = some sp) : sp.length < t.dp := by
  rw [firstT_eq] at h
  cases e : stepsT N t with
  | nil => rw [e] at h; cases h
  | cons p l =>
    rw [e] at h
    have := stepsT_short (N := N) (t := t) (p := p) (by rw [e]; exact List.mem_cons_self)
    simp at h
    rw [← h]; exact this
section
variable {P : Program} {w : World} {K : PySem.W.Frag} {mg : Str → Option Value} {base : Heap}
abbrev sp_first (N : Nm) (d : Nat) : SpecD := spF (fun t : T => [gD N, toD t]) (fun t => t.ok ∧ t.dp ≤ d ∧ t.eats N) fun t => spO (firstT N t)
theorem sc_first_step : FnScope ["ground", "term", "number", "part", "spot"] ["ground", "term"] d_first_step.scope := ⟨rfl, rfl, rfl, by decide +kernel, rfl, by decide +kernel, by decide +kernel⟩
theorem F_first_of (Z : Tx P w K mg base) {N : Nm} (hN : N.Ok) {k d : Nat} (hd : d ≤ 57) (h : Fn P w K mg base (GC K) "first_step" (k + 122) [] (sp_first N d)) : Fn P w K mg base (GC K) "first_step" (k + 123) [] (sp_first N (d + 1)) := by
  refine fn_p0 Z (k := (k+122)) 41 rfl rfl rfl rfl sc_first_step (by decide) (fun _ _ _ _ _ _ us hl => match us, hl with | [_, _], _ => rfl) (fun _ => rfl) (fun f cdv A outer s H E hr => by
    have sc := sc_first_step
    exact (dss_cons (ds_if (dt_cmp op_notN d2_notN (de_call (F_gone Z hN) (hr.mono (by omega)) (da_cons (de_var 0) (da_cons (de_var 1) da_nil))) de_non (nomark _)) (dss_one (ds_ret (de_tup da_nil))) dss_nil) (dss_cons (ds_for (di_enum rfl Z.f_enumerate (da_cons (DL.de (de_callL (F_inner Z) (hr.mono (by omega)) (da_cons (de_var 1) da_nil))) da_nil)) (dg_tup rfl (dgs_cons (i := 2) sc.nd (dgs_cons (i := 3) sc.nd dgs_nil))) (dss_cons (ds_set (i := 4) sc.nd (de_call (h) (hr.mono (by omega)) (da_cons (de_var 0) (da_cons (de_var 3) da_nil)))) (dss_one (ds_if (dt_cmp op_notN d2_notN (de_var 4) de_non (nomark _)) (dss_one (ds_ret (de_bin op_catA d2_catT (de_tup (da_cons (de_var 2) da_nil)) (de_var 4)))) dss_nil)))) (dss_one (ds_ret de_non))))) ?hg
  rintro t π ⟨h1, h2, h3⟩
  walk_at "kpe"
  refine x_f1 t rfl ⟨h1, by omega, h3⟩ ?_
  cases hg : goneT N t with
  | some p =>
    have hf : firstT N t = some [] := by cases t <;> simp [firstT, hg]
    rw [hf]
    repeat (first | (apply_rules (transparency := .reducible) (exfalso := false) (symm := false) (maxDepth := 1000) only [x_seq, x_next, x_ert, x_enx, x_ret, x_drop, x_asg, x_one, x_par, x_ifS, x_for, x_fo0, x_fo1, x_own, x_setL, x_c, x_nil, x_cons, x_tup, x_lst, x_bin, x_tst, x_exb, x_exi, x_exs, x_exl, x_ext2, x_1l, x_1t, x_1i, x_2i, x_ex1, x_ex2, x_and, x_or, x_not, x_if, x_ifL, x_andV, x_orV, x_notV, x_isi2, x_call, x_nop, x_part, x_sl, x_ownF, x_ownL, x_asL, x_lc, x_seL, x_seT, x_enL, x_enT, x_rng1, x_rng2, x_pset, x_meth, x_gnd, x_I0, x_eqI, x_eqS, x_isN, x_inT, x_in2, x_in5, x_slT, x_slL, x_int, x_listT, x_listL, x_tuple, x_max, x_min, x_rep0, x_rep2]) | refine x_many rfl ?_ | refine x_manyL rfl ?_ | refine x_var rfl ?_ | refine x_few (Nat.le_of_ble_eq_true rfl) ?_ | refine x_ixT rfl ?_ | refine x_ixL rfl ?_ | refine x_ixD rfl rfl ?_ | refine x_slD rfl ?_ | refine x_len rfl (Nat.le_of_ble_eq_true rfl) ?_ | refine x_lenO rfl (Nat.le_of_ble_eq_true rfl) ?_ | refine x_pix rfl rfl ?_ | refine x_catL (Nat.le_of_ble_eq_true rfl) ?_ | refine x_catT (Nat.le_of_ble_eq_true rfl) ?_ | refine x_catS (Nat.le_of_ble_eq_true rfl) ?_ | refine x_app rfl (Nat.lt_of_lt_of_le (Nat.lt_succ_self _) (Nat.le_of_ble_eq_true rfl)) ?_ | refine x_ext rfl ?_ | (refine x_isi ?_ ?_; focus (first | rfl | (simp; done))) | (refine x_if_t ?_ ?_; focus (first | rfl | (simp [ruleD]; done))) | (refine x_if_f ?_ ?_; focus (first | rfl | (simp [ruleD]; done))))
    exact ⟨rfl, rfl⟩
  | none =>
    repeat (first | (apply_rules (transparency := .reducible) (exfalso := false) (symm := false) (maxDepth := 1000) only [x_seq, x_next, x_ert, x_enx, x_ret, x_drop, x_asg, x_one, x_par, x_ifS, x_for, x_fo0, x_fo1, x_own, x_setL, x_c, x_nil, x_cons, x_tup, x_lst, x_bin, x_tst, x_exb, x_exi, x_exs, x_exl, x_ext2, x_1l, x_1t, x_1i, x_2i, x_ex1, x_ex2, x_and, x_or, x_not, x_if, x_ifL, x_andV, x_orV, x_notV, x_isi2, x_call, x_nop, x_part, x_sl, x_ownF, x_ownL, x_asL, x_lc, x_seL, x_seT, x_enL, x_enT, x_rng1, x_rng2, x_pset, x_meth, x_gnd, x_I0, x_eqI, x_eqS, x_isN, x_inT, x_in2, x_in5, x_slT, x_slL, x_int, x_listT, x_listL, x_tuple, x_max, x_min, x_rep0, x_rep2]) | refine x_many rfl ?_ | refine x_manyL rfl ?_ | refine x_var rfl ?_ | refine x_few (Nat.le_of_ble_eq_true rfl) ?_ | refine x_ixT rfl ?_ | refine x_ixL rfl ?_ | refine x_ixD rfl rfl ?_ | refine x_slD rfl ?_ | refine x_len rfl (Nat.le_of_ble_eq_true rfl) ?_ | refine x_lenO rfl (Nat.le_of_ble_eq_true rfl) ?_ | refine x_pix rfl rfl ?_ | refine x_catL (Nat.le_of_ble_eq_true rfl) ?_ | refine x_catT (Nat.le_of_ble_eq_true rfl) ?_ | refine x_catS (Nat.le_of_ble_eq_true rfl) ?_ | refine x_app rfl (Nat.lt_of_lt_of_le (Nat.lt_succ_self _) (Nat.le_of_ble_eq_true rfl)) ?_ | refine x_ext rfl ?_ | (refine x_isi ?_ ?_; focus (first | rfl | (simp; done))) | (refine x_if_t ?_ ?_; focus (first | rfl | (simp [ruleD]; done))) | (refine x_if_f ?_ ?_; focus (first | rfl | (simp [ruleD]; done))))
    refine x_fL t rfl trivial ?_
    cases t with
    | var n =>
      dsimp only [parts_var, List.map_nil]
      walk_at "kpe"
      exact ⟨by simp [firstT, hg, spO], rfl⟩
    | leaf n =>
      dsimp only [parts_leaf, List.map_nil]
      walk_at "kpe"
      exact ⟨by simp [firstT, hg, spO], rfl⟩
    | bin b x y =>
      simp only [T.ok] at h1
      simp only [T.dp] at h2
      simp only [T.eats] at h3
      have m1 := Nat.le_max_left x.dp y.dp
      have m2 := Nat.le_max_right x.dp y.dp
      have ef : firstT N (.bin b x y) = ((firstT N x).map (0 :: ·)).or ((firstT N y).map (1 :: ·)) := by simp [firstT, hg]
      rw [ef]
      walk_at "kpe"
      simp only [parts_bin, List.map_cons, List.map_nil, enumD]
      walk_at "kpe"
      refine x_f1 x rfl ⟨h1.1, by omega, h3.1⟩ ?_
      cases f1 : firstT N x with
      | some sp =>
        have := firstT_short f1
        repeat (first | (apply_rules (transparency := .reducible) (exfalso := false) (symm := false) (maxDepth := 1000) only [x_seq, x_next, x_ert, x_enx, x_ret, x_drop, x_asg, x_one, x_par, x_ifS, x_for, x_fo0, x_fo1, x_own, x_setL, x_c, x_nil, x_cons, x_tup, x_lst, x_bin, x_tst, x_exb, x_exi, x_exs, x_exl, x_ext2, x_1l, x_1t, x_1i, x_2i, x_ex1, x_ex2, x_and, x_or, x_not, x_if, x_ifL, x_andV, x_orV, x_notV, x_isi2, x_call, x_nop, x_part, x_sl, x_ownF, x_ownL, x_asL, x_lc, x_seL, x_seT, x_enL, x_enT, x_rng1, x_rng2, x_pset, x_meth, x_gnd, x_I0, x_eqI, x_eqS, x_isN, x_inT, x_in2, x_in5, x_slT, x_slL, x_int, x_listT, x_listL, x_tuple, x_max, x_min, x_rep0, x_rep2]) | refine x_many rfl ?_ | refine x_manyL rfl ?_ | refine x_var rfl ?_ | refine x_few (Nat.le_of_ble_eq_true rfl) ?_ | refine x_ixT rfl ?_ | refine x_ixL rfl ?_ | refine x_ixD rfl rfl ?_ | refine x_slD rfl ?_ | refine x_len rfl (Nat.le_of_ble_eq_true rfl) ?_ | refine x_lenO rfl (Nat.le_of_ble_eq_true rfl) ?_ | refine x_pix rfl rfl ?_ | refine x_catL (Nat.le_of_ble_eq_true rfl) ?_ | refine x_catT (Nat.le_of_ble_eq_true rfl) ?_ | refine x_catS (Nat.le_of_ble_eq_true rfl) ?_ | refine x_app rfl (Nat.lt_of_lt_of_le (Nat.lt_succ_self _) (Nat.le_of_ble_eq_true rfl)) ?_ | refine x_ext rfl ?_ | (refine x_isi ?_ ?_; focus (first | rfl | (simp; done))) | (refine x_if_t ?_ ?_; focus (first | rfl | (simp [spO, spD]; done))) | (refine x_if_f ?_ ?_; focus (first | rfl | (simp [spO, spD]; done))))
        refine x_catT (es := sp.map .int) (by simp; omega) ?_
        walk_at "kpe"
        exact ⟨rfl, rfl⟩
      | none =>
        repeat (first | (apply_rules (transparency := .reducible) (exfalso := false) (symm := false) (maxDepth := 1000) only [x_seq, x_next, x_ert, x_enx, x_ret, x_drop, x_asg, x_one, x_par, x_ifS, x_for, x_fo0, x_fo1, x_own, x_setL, x_c, x_nil, x_cons, x_tup, x_lst, x_bin, x_tst, x_exb, x_exi, x_exs, x_exl, x_ext2, x_1l, x_1t, x_1i, x_2i, x_ex1, x_ex2, x_and, x_or, x_not, x_if, x_ifL, x_andV, x_orV, x_notV, x_isi2, x_call, x_nop, x_part, x_sl, x_ownF, x_ownL, x_asL, x_lc, x_seL, x_seT, x_enL, x_enT, x_rng1, x_rng2, x_pset, x_meth, x_gnd, x_I0, x_eqI, x_eqS, x_isN, x_inT, x_in2, x_in5, x_slT, x_slL, x_int, x_listT, x_listL, x_tuple, x_max, x_min, x_rep0, x_rep2]) | refine x_many rfl ?_ | refine x_manyL rfl ?_ | refine x_var rfl ?_ | refine x_few (Nat.le_of_ble_eq_true rfl) ?_ | refine x_ixT rfl ?_ | refine x_ixL rfl ?_ | refine x_ixD rfl rfl ?_ | refine x_slD rfl ?_ | refine x_len rfl (Nat.le_of_ble_eq_true rfl) ?_ | refine x_lenO rfl (Nat.le_of_ble_eq_true rfl) ?_ | refine x_pix rfl rfl ?_ | refine x_catL (Nat.le_of_ble_eq_true rfl) ?_ | refine x_catT (Nat.le_of_ble_eq_true rfl) ?_ | refine x_catS (Nat.le_of_ble_eq_true rfl) ?_ | refine x_app rfl (Nat.lt_of_lt_of_le (Nat.lt_succ_self _) (Nat.le_of_ble_eq_true rfl)) ?_ | refine x_ext rfl ?_ | (refine x_isi ?_ ?_; focus (first | rfl | (simp; done))) | (refine x_if_t ?_ ?_; focus (first | rfl | (simp [spO]; done))) | (refine x_if_f ?_ ?_; focus (first | rfl | (simp [spO]; done))))
        refine x_f1 y rfl ⟨h1.2, by omega, h3.2⟩ ?_
        cases f2 : firstT N y with
        | some sp =>
          have := firstT_short f2
          repeat (first | (apply_rules (transparency := .reducible) (exfalso := false) (symm := false) (maxDepth := 1000) only [x_seq, x_next, x_ert, x_enx, x_ret, x_drop, x_asg, x_one, x_par, x_ifS, x_for, x_fo0, x_fo1, x_own, x_setL, x_c, x_nil, x_cons, x_tup, x_lst, x_bin, x_tst, x_exb, x_exi, x_exs, x_exl, x_ext2, x_1l, x_1t, x_1i, x_2i, x_ex1, x_ex2, x_and, x_or, x_not, x_if, x_ifL, x_andV, x_orV, x_notV, x_isi2, x_call, x_nop, x_part, x_sl, x_ownF, x_ownL, x_asL, x_lc, x_seL, x_seT, x_enL, x_enT, x_rng1, x_rng2, x_pset, x_meth, x_gnd, x_I0, x_eqI, x_eqS, x_isN, x_inT, x_in2, x_in5, x_slT, x_slL, x_int, x_listT, x_listL, x_tuple, x_max, x_min, x_rep0, x_rep2]) | refine x_many rfl ?_ | refine x_manyL rfl ?_ | refine x_var rfl ?_ | refine x_few (Nat.le_of_ble_eq_true rfl) ?_ | refine x_ixT rfl ?_ | refine x_ixL rfl ?_ | refine x_ixD rfl rfl ?_ | refine x_slD rfl ?_ | refine x_len rfl (Nat.le_of_ble_eq_true rfl) ?_ | refine x_lenO rfl (Nat.le_of_ble_eq_true rfl) ?_ | refine x_pix rfl rfl ?_ | refine x_catL (Nat.le_of_ble_eq_true rfl) ?_ | refine x_catT (Nat.le_of_ble_eq_true rfl) ?_ | refine x_catS (Nat.le_of_ble_eq_true rfl) ?_ | refine x_app rfl (Nat.lt_of_lt_of_le (Nat.lt_succ_self _) (Nat.le_of_ble_eq_true rfl)) ?_ | refine x_ext rfl ?_ | (refine x_isi ?_ ?_; focus (first | rfl | (simp; done))) | (refine x_if_t ?_ ?_; focus (first | rfl | (simp [spO, spD]; done))) | (refine x_if_f ?_ ?_; focus (first | rfl | (simp [spO, spD]; done))))
          refine x_catT (es := sp.map .int) (by simp; omega) ?_
          walk_at "kpe"
          exact ⟨rfl, rfl⟩
        | none =>
          repeat (first | (apply_rules (transparency := .reducible) (exfalso := false) (symm := false) (maxDepth := 1000) only [x_seq, x_next, x_ert, x_enx, x_ret, x_drop, x_asg, x_one, x_par, x_ifS, x_for, x_fo0, x_fo1, x_own, x_setL, x_c, x_nil, x_cons, x_tup, x_lst, x_bin, x_tst, x_exb, x_exi, x_exs, x_exl, x_ext2, x_1l, x_1t, x_1i, x_2i, x_ex1, x_ex2, x_and, x_or, x_not, x_if, x_ifL, x_andV, x_orV, x_notV, x_isi2, x_call, x_nop, x_part, x_sl, x_ownF, x_ownL, x_asL, x_lc, x_seL, x_seT, x_enL, x_enT, x_rng1, x_rng2, x_pset, x_meth, x_gnd, x_I0, x_eqI, x_eqS, x_isN, x_inT, x_in2, x_in5, x_slT, x_slL, x_int, x_listT, x_listL, x_tuple, x_max, x_min, x_rep0, x_rep2]) | refine x_many rfl ?_ | refine x_manyL rfl ?_ | refine x_var rfl ?_ | refine x_few (Nat.le_of_ble_eq_true rfl) ?_ | refine x_ixT rfl ?_ | refine x_ixL rfl ?_ | refine x_ixD rfl rfl ?_ | refine x_slD rfl ?_ | refine x_len rfl (Nat.le_of_ble_eq_true rfl) ?_ | refine x_lenO rfl (Nat.le_of_ble_eq_true rfl) ?_ | refine x_pix rfl rfl ?_ | refine x_catL (Nat.le_of_ble_eq_true rfl) ?_ | refine x_catT (Nat.le_of_ble_eq_true rfl) ?_ | refine x_catS (Nat.le_of_ble_eq_true rfl) ?_ | refine x_app rfl (Nat.lt_of_lt_of_le (Nat.lt_succ_self _) (Nat.le_of_ble_eq_true rfl)) ?_ | refine x_ext rfl ?_ | (refine x_isi ?_ ?_; focus (first | rfl | (simp; done))) | (refine x_if_t ?_ ?_; focus (first | rfl | (simp [spO]; done))) | (refine x_if_f ?_ ?_; focus (first | rfl | (simp [spO]; done))))
          exact ⟨rfl, rfl⟩
    | tri b x y z =>
      simp only [T.ok] at h1
      simp only [T.dp] at h2
      simp only [T.eats] at h3
      have m1 := Nat.le_max_left x.dp (max y.dp z.dp)
      have m2 := Nat.le_max_right x.dp (max y.dp z.dp)
      have m3 := Nat.le_max_left y.dp z.dp
      have m4 := Nat.le_max_right y.dp z.dp
      have ef : firstT N (.tri b x y z) = ((firstT N x).map (0 :: ·)).or (((firstT N y).map (1 :: ·)).or ((firstT N z).map (2 :: ·))) := by simp [firstT, hg]
      rw [ef]
      walk_at "kpe"
      simp only [parts_tri, List.map_cons, List.map_nil, enumD]
      walk_at "kpe"
      refine x_f1 x rfl ⟨h1.1, by omega, h3.1⟩ ?_
      cases f1 : firstT N x with
      | some sp =>
        have := firstT_short f1
        repeat (first | (apply_rules (transparency := .reducible) (exfalso := false) (symm := false) (maxDepth := 1000) only [x_seq, x_next, x_ert, x_enx, x_ret, x_drop, x_asg, x_one, x_par, x_ifS, x_for, x_fo0, x_fo1, x_own, x_setL, x_c, x_nil, x_cons, x_tup, x_lst, x_bin, x_tst, x_exb, x_exi, x_exs, x_exl, x_ext2, x_1l, x_1t, x_1i, x_2i, x_ex1, x_ex2, x_and, x_or, x_not, x_if, x_ifL, x_andV, x_orV, x_notV, x_isi2, x_call, x_nop, x_part, x_sl, x_ownF, x_ownL, x_asL, x_lc, x_seL, x_seT, x_enL, x_enT, x_rng1, x_rng2, x_pset, x_meth, x_gnd, x_I0, x_eqI, x_eqS, x_isN, x_inT, x_in2, x_in5, x_slT, x_slL, x_int, x_listT, x_listL, x_tuple, x_max, x_min, x_rep0, x_rep2]) | refine x_many rfl ?_ | refine x_manyL rfl ?_ | refine x_var rfl ?_ | refine x_few (Nat.le_of_ble_eq_true rfl) ?_ | refine x_ixT rfl ?_ | refine x_ixL rfl ?_ | refine x_ixD rfl rfl ?_ | refine x_slD rfl ?_ | refine x_len rfl (Nat.le_of_ble_eq_true rfl) ?_ | refine x_lenO rfl (Nat.le_of_ble_eq_true rfl) ?_ | refine x_pix rfl rfl ?_ | refine x_catL (Nat.le_of_ble_eq_true rfl) ?_ | refine x_catT (Nat.le_of_ble_eq_true rfl) ?_ | refine x_catS (Nat.le_of_ble_eq_true rfl) ?_ | refine x_app rfl (Nat.lt_of_lt_of_le (Nat.lt_succ_self _) (Nat.le_of_ble_eq_true rfl)) ?_ | refine x_ext rfl ?_ | (refine x_isi ?_ ?_; focus (first | rfl | (simp; done))) | (refine x_if_t ?_ ?_; focus (first | rfl | (simp [spO, spD]; done))) | (refine x_if_f ?_ ?_; focus (first | rfl | (simp [spO, spD]; done))))
        refine x_catT (es := sp.map .int) (by simp; omega) ?_
        walk_at "kpe"
        exact ⟨rfl, rfl⟩
      | none =>
        repeat (first | (apply_rules (transparency := .reducible) (exfalso := false) (symm := false) (maxDepth := 1000) only [x_seq, x_next, x_ert, x_enx, x_ret, x_drop, x_asg, x_one, x_par, x_ifS, x_for, x_fo0, x_fo1, x_own, x_setL, x_c, x_nil, x_cons, x_tup, x_lst, x_bin, x_tst, x_exb, x_exi, x_exs, x_exl, x_ext2, x_1l, x_1t, x_1i, x_2i, x_ex1, x_ex2, x_and, x_or, x_not, x_if, x_ifL, x_andV, x_orV, x_notV, x_isi2, x_call, x_nop, x_part, x_sl, x_ownF, x_ownL, x_asL, x_lc, x_seL, x_seT, x_enL, x_enT, x_rng1, x_rng2, x_pset, x_meth, x_gnd, x_I0, x_eqI, x_eqS, x_isN, x_inT, x_in2, x_in5, x_slT, x_slL, x_int, x_listT, x_listL, x_tuple, x_max, x_min, x_rep0, x_rep2]) | refine x_many rfl ?_ | refine x_manyL rfl ?_ | refine x_var rfl ?_ | refine x_few (Nat.le_of_ble_eq_true rfl) ?_ | refine x_ixT rfl ?_ | refine x_ixL rfl ?_ | refine x_ixD rfl rfl ?_ | refine x_slD rfl ?_ | refine x_len rfl (Nat.le_of_ble_eq_true rfl) ?_ | refine x_lenO rfl (Nat.le_of_ble_eq_true rfl) ?_ | refine x_pix rfl rfl ?_ | refine x_catL (Nat.le_of_ble_eq_true rfl) ?_ | refine x_catT (Nat.le_of_ble_eq_true rfl) ?_ | refine x_catS (Nat.le_of_ble_eq_true rfl) ?_ | refine x_app rfl (Nat.lt_of_lt_of_le (Nat.lt_succ_self _) (Nat.le_of_ble_eq_true rfl)) ?_ | refine x_ext rfl ?_ | (refine x_isi ?_ ?_; focus (first | rfl | (simp; done))) | (refine x_if_t ?_ ?_; focus (first | rfl | (simp [spO]; done))) | (refine x_if_f ?_ ?_; focus (first | rfl | (simp [spO]; done))))
        refine x_f1 y rfl ⟨h1.2.1, by omega, h3.2.1⟩ ?_
        cases f2 : firstT N y with
        | some sp =>
          have := firstT_short f2
          repeat (first | (apply_rules (transparency := .reducible) (exfalso := false) (symm := false) (maxDepth := 1000) only [x_seq, x_next, x_ert, x_enx, x_ret, x_drop, x_asg, x_one, x_par, x_ifS, x_for, x_fo0, x_fo1, x_own, x_setL, x_c, x_nil, x_cons, x_tup, x_lst, x_bin, x_tst, x_exb, x_exi, x_exs, x_exl, x_ext2, x_1l, x_1t, x_1i, x_2i, x_ex1, x_ex2, x_and, x_or, x_not, x_if, x_ifL, x_andV, x_orV, x_notV, x_isi2, x_call, x_nop, x_part, x_sl, x_ownF, x_ownL, x_asL, x_lc, x_seL, x_seT, x_enL, x_enT, x_rng1, x_rng2, x_pset, x_meth, x_gnd, x_I0, x_eqI, x_eqS, x_isN, x_inT, x_in2, x_in5, x_slT, x_slL, x_int, x_listT, x_listL, x_tuple, x_max, x_min, x_rep0, x_rep2]) | refine x_many rfl ?_ | refine x_manyL rfl ?_ | refine x_var rfl ?_ | refine x_few (Nat.le_of_ble_eq_true rfl) ?_ | refine x_ixT rfl ?_ | refine x_ixL rfl ?_ | refine x_ixD rfl rfl ?_ | refine x_slD rfl ?_ | refine x_len rfl (Nat.le_of_ble_eq_true rfl) ?_ | refine x_lenO rfl (Nat.le_of_ble_eq_true rfl) ?_ | refine x_pix rfl rfl ?_ | refine x_catL (Nat.le_of_ble_eq_true rfl) ?_ | refine x_catT (Nat.le_of_ble_eq_true rfl) ?_ | refine x_catS (Nat.le_of_ble_eq_true rfl) ?_ | refine x_app rfl (Nat.lt_of_lt_of_le (Nat.lt_succ_self _) (Nat.le_of_ble_eq_true rfl)) ?_ | refine x_ext rfl ?_ | (refine x_isi ?_ ?_; focus (first | rfl | (simp; done))) | (refine x_if_t ?_ ?_; focus (first | rfl | (simp [spO, spD]; done))) | (refine x_if_f ?_ ?_; focus (first | rfl | (simp [spO, spD]; done))))
          refine x_catT (es := sp.map .int) (by simp; omega) ?_
          walk_at "kpe"
          exact ⟨rfl, rfl⟩
        | none =>
          repeat (first | (apply_rules (transparency := .reducible) (exfalso := false) (symm := false) (maxDepth := 1000) only [x_seq, x_next, x_ert, x_enx, x_ret, x_drop, x_asg, x_one, x_par, x_ifS, x_for, x_fo0, x_fo1, x_own, x_setL, x_c, x_nil, x_cons, x_tup, x_lst, x_bin, x_tst, x_exb, x_exi, x_exs, x_exl, x_ext2, x_1l, x_1t, x_1i, x_2i, x_ex1, x_ex2, x_and, x_or, x_not, x_if, x_ifL, x_andV, x_orV, x_notV, x_isi2, x_call, x_nop, x_part, x_sl, x_ownF, x_ownL, x_asL, x_lc, x_seL, x_seT, x_enL, x_enT, x_rng1, x_rng2, x_pset, x_meth, x_gnd, x_I0, x_eqI, x_eqS, x_isN, x_inT, x_in2, x_in5, x_slT, x_slL, x_int, x_listT, x_listL, x_tuple, x_max, x_min, x_rep0, x_rep2]) | refine x_many rfl ?_ | refine x_manyL rfl ?_ | refine x_var rfl ?_ | refine x_few (Nat.le_of_ble_eq_true rfl) ?_ | refine x_ixT rfl ?_ | refine x_ixL rfl ?_ | refine x_ixD rfl rfl ?_ | refine x_slD rfl ?_ | refine x_len rfl (Nat.le_of_ble_eq_true rfl) ?_ | refine x_lenO rfl (Nat.le_of_ble_eq_true rfl) ?_ | refine x_pix rfl rfl ?_ | refine x_catL (Nat.le_of_ble_eq_true rfl) ?_ | refine x_catT (Nat.le_of_ble_eq_true rfl) ?_ | refine x_catS (Nat.le_of_ble_eq_true rfl) ?_ | refine x_app rfl (Nat.lt_of_lt_of_le (Nat.lt_succ_self _) (Nat.le_of_ble_eq_true rfl)) ?_ | refine x_ext rfl ?_ | (refine x_isi ?_ ?_; focus (first | rfl | (simp; done))) | (refine x_if_t ?_ ?_; focus (first | rfl | (simp [spO]; done))) | (refine x_if_f ?_ ?_; focus (first | rfl | (simp [spO]; done))))
          refine x_f1 z rfl ⟨h1.2.2, by omega, h3.2.2⟩ ?_
          cases f3 : firstT N z with
          | some sp =>
            have := firstT_short f3
            repeat (first | (apply_rules (transparency := .reducible) (exfalso := false) (symm := false) (maxDepth := 1000) only [x_seq, x_next, x_ert, x_enx, x_ret, x_drop, x_asg, x_one, x_par, x_ifS, x_for, x_fo0, x_fo1, x_own, x_setL, x_c, x_nil, x_cons, x_tup, x_lst, x_bin, x_tst, x_exb, x_exi, x_exs, x_exl, x_ext2, x_1l, x_1t, x_1i, x_2i, x_ex1, x_ex2, x_and, x_or, x_not, x_if, x_ifL, x_andV, x_orV, x_notV, x_isi2, x_call, x_nop, x_part, x_sl, x_ownF, x_ownL, x_asL, x_lc, x_seL, x_seT, x_enL, x_enT, x_rng1, x_rng2, x_pset, x_meth, x_gnd, x_I0, x_eqI, x_eqS, x_isN, x_inT, x_in2, x_in5, x_slT, x_slL, x_int, x_listT, x_listL, x_tuple, x_max, x_min, x_rep0, x_rep2]) | refine x_many rfl ?_ | refine x_manyL rfl ?_ | refine x_var rfl ?_ | refine x_few (Nat.le_of_ble_eq_true rfl) ?_ | refine x_ixT rfl ?_ | refine x_ixL rfl ?_ | refine x_ixD rfl rfl ?_ | refine x_slD rfl ?_ | refine x_len rfl (Nat.le_of_ble_eq_true rfl) ?_ | refine x_lenO rfl (Nat.le_of_ble_eq_true rfl) ?_ | refine x_pix rfl rfl ?_ | refine x_catL (Nat.le_of_ble_eq_true rfl) ?_ | refine x_catT (Nat.le_of_ble_eq_true rfl) ?_ | refine x_catS (Nat.le_of_ble_eq_true rfl) ?_ | refine x_app rfl (Nat.lt_of_lt_of_le (Nat.lt_succ_self _) (Nat.le_of_ble_eq_true rfl)) ?_ | refine x_ext rfl ?_ | (refine x_isi ?_ ?_; focus (first | rfl | (simp; done))) | (refine x_if_t ?_ ?_; focus (first | rfl | (simp [spO, spD]; done))) | (refine x_if_f ?_ ?_; focus (first | rfl | (simp [spO, spD]; done))))
            refine x_catT (es := sp.map .int) (by simp; omega) ?_
            walk_at "kpe"
            exact ⟨rfl, rfl⟩
          | none =>
            repeat (first | (apply_rules (transparency := .reducible) (exfalso := false) (symm := false) (maxDepth := 1000) only [x_seq, x_next, x_ert, x_enx, x_ret, x_drop, x_asg, x_one, x_par, x_ifS, x_for, x_fo0, x_fo1, x_own, x_setL, x_c, x_nil, x_cons, x_tup, x_lst, x_bin, x_tst, x_exb, x_exi, x_exs, x_exl, x_ext2, x_1l, x_1t, x_1i, x_2i, x_ex1, x_ex2, x_and, x_or, x_not, x_if, x_ifL, x_andV, x_orV, x_notV, x_isi2, x_call, x_nop, x_part, x_sl, x_ownF, x_ownL, x_asL, x_lc, x_seL, x_seT, x_enL, x_enT, x_rng1, x_rng2, x_pset, x_meth, x_gnd, x_I0, x_eqI, x_eqS, x_isN, x_inT, x_in2, x_in5, x_slT, x_slL, x_int, x_listT, x_listL, x_tuple, x_max, x_min, x_rep0, x_rep2]) | refine x_many rfl ?_ | refine x_manyL rfl ?_ | refine x_var rfl ?_ | refine x_few (Nat.le_of_ble_eq_true rfl) ?_ | refine x_ixT rfl ?_ | refine x_ixL rfl ?_ | refine x_ixD rfl rfl ?_ | refine x_slD rfl ?_ | refine x_len rfl (Nat.le_of_ble_eq_true rfl) ?_ | refine x_lenO rfl (Nat.le_of_ble_eq_true rfl) ?_ | refine x_pix rfl rfl ?_ | refine x_catL (Nat.le_of_ble_eq_true rfl) ?_ | refine x_catT (Nat.le_of_ble_eq_true rfl) ?_ | refine x_catS (Nat.le_of_ble_eq_true rfl) ?_ | refine x_app rfl (Nat.lt_of_lt_of_le (Nat.lt_succ_self _) (Nat.le_of_ble_eq_true rfl)) ?_ | refine x_ext rfl ?_ | (refine x_isi ?_ ?_; focus (first | rfl | (simp; done))) | (refine x_if_t ?_ ?_; focus (first | rfl | (simp [spO]; done))) | (refine x_if_f ?_ ?_; focus (first | rfl | (simp [spO]; done))))
            exact ⟨rfl, rfl⟩
theorem F_first_step (Z : Tx P w K mg base) {N : Nm} (hN : N.Ok) : ∀ d : Nat, d ≤ 58 → Fn P w K mg base (GC K) "first_step" (d + 122) [] (sp_first N d)
  | 0, _ => by
    refine fn_void Z 41 rfl rfl rfl rfl (ps := ["ground", "term"]) (fun _ _ _ _ _ _ us hl => match us, hl with | [_, _], _ => rfl) ?_
    rintro ds π Q ⟨t, e, ⟨h1, h2, h3⟩, q⟩
    have := t.dp_pos
    omega
  | d + 1, h => F_first_of Z hN (by omega) (F_first_step Z hN d (by omega))
end
end Kp
set_option maxRecDepth 100000
set_option maxHeartbeats 4000000
/-! A14: gone_way, worked -/
namespace Kp
open PySem PySem.Spec L2
theorem x_while {t : DTt} {g : DTs} {A : DEnds} {ρ : DEnv} {π : Pu} (n : Nat) (h : whD t g A n ρ π) : dWhile t g A ρ π := ⟨n, h⟩
section
variable {P : Program} {w : World} {K : PySem.W.Frag} {mg : Str → Option Value} {base : Heap}
theorem sc_gone_way : FnScope ["ground", "term", "most", "found", "here", "spot"] ["ground", "term", "most"] d_gone_way.scope := ⟨rfl, rfl, rfl, by decide +kernel, rfl, by decide +kernel, by decide +kernel⟩
theorem F_gone_way (Z : Tx P w K mg base) {N : Nm} (hN : N.Ok) : Fn P w K mg base (GC K) "gone_way" 182 [] (spF (fun a : T × List (List Int) × T × Int => [gD N, toD a.1, .int a.2.2.2]) (fun a => Way N a.1 a.2.1 a.2.2.1 ∧ (a.2.1.length : Int) ≤ a.2.2.2 ∧ a.2.1.length ≤ 3000) fun a => .tup [toD a.2.2.1, .lst (a.2.1.map spD)]) := by
  refine fn_p0 Z (k := 181) 42 rfl rfl rfl rfl sc_gone_way (by decide) (fun _ _ _ _ _ _ us hl => match us, hl with | [_, _, _], _ => rfl) (fun _ => rfl) (fun f cdv A outer s H E hr => by
    have sc := sc_gone_way
    exact (dss_cons (ds_own (i := 3) sc.nd (dl_lst da_nil)) (dss_cons (ds_set (i := 4) sc.nd (de_var 1)) (dss_cons (ds_set (i := 5) sc.nd (de_call (F_first_step Z hN 57 (by omega)) (hr.mono (by omega)) (da_cons (de_var 0) (da_cons (de_var 4) da_nil)))) (dss_cons (ds_while (dt_cmp op_notN d2_notN (de_var 5) de_non (nomark _)) (dss_cons (ds_if (dt_cmp op_eq d2_eqS (de_lenO 3 Z.f_len rfl) (de_var 2) (nomark _)) (dss_one ds_never) dss_nil) (dss_cons (ds_append 3 (de_var 5)) (dss_cons (ds_set (i := 4) sc.nd (de_call (F_put_at Z 60) (hr.mono (by omega)) (da_cons (de_var 4) (da_cons (de_var 5) (da_cons (de_call (F_next_of Z hN) (hr.mono (by omega)) (da_cons (de_var 0) (da_cons (de_ix ix_seq d2_ix (de_call (F_gone_to Z) (hr.mono (by omega)) (da_cons (de_var 4) (da_cons (de_var 5) da_nil))) de_int) da_nil))) da_nil))))) (dss_one (ds_set (i := 5) sc.nd (de_call (F_first_step Z hN 57 (by omega)) (hr.mono (by omega)) (da_cons (de_var 0) (da_cons (de_var 4) da_nil))))))))) (dss_one (ds_frz 3 (ds_ret (de_tup (da_cons (de_var 4) (da_cons (de_var 3) da_nil))))))))))) ?hg
  rintro ⟨t, sps, r, most⟩ π ⟨hw, h1, h2⟩
  simp only at hw h1 h2
  have gd : Gd N t := by cases hw <;> assumption
  have hd := gd.dp
  walk_at "kpe"
  refine x_f1 t rfl ⟨gd.ok, by omega, gd.ea⟩ ?_
  walk_at "kpe"
  refine x_while (sps.length + 1) (whD_inv (I := fun n ρ π' => ∃ here l acc, ρ = [.pu (gD N), .pu (toD t), .pu (.int most), .ow (acc.map spD), .pu (toD here), .pu (spO (firstT N here))] ∧ Way N here l r ∧ l.length = n ∧ acc ++ l = sps ∧ π = π') ?_ sps.length ⟨t, sps, [], rfl, hw, rfl, rfl, rfl⟩)
  rintro n ρ π' B ⟨here, l, acc, e1, hw', e2, e3, e4⟩ hB
  subst e1 e2 e4
  cases hw' with
  | stop g0 hs =>
    have hf : firstT N r = none := by rw [firstT_eq, hs]; rfl
    rw [hf]
    repeat (first | (apply_rules (transparency := .reducible) (exfalso := false) (symm := false) (maxDepth := 1000) only [x_seq, x_next, x_ert, x_enx, x_ret, x_drop, x_asg, x_one, x_par, x_ifS, x_for, x_fo0, x_fo1, x_own, x_setL, x_c, x_nil, x_cons, x_tup, x_lst, x_bin, x_tst, x_exb, x_exi, x_exs, x_exl, x_ext2, x_1l, x_1t, x_1i, x_2i, x_ex1, x_ex2, x_and, x_or, x_not, x_if, x_ifL, x_andV, x_orV, x_notV, x_isi2, x_call, x_nop, x_part, x_sl, x_ownF, x_ownL, x_asL, x_lc, x_seL, x_seT, x_enL, x_enT, x_rng1, x_rng2, x_pset, x_meth, x_gnd, x_I0, x_eqI, x_eqS, x_isN, x_inT, x_in2, x_in5, x_slT, x_slL, x_int, x_listT, x_listL, x_tuple, x_max, x_min, x_rep0, x_rep2]) | refine x_many rfl ?_ | refine x_manyL rfl ?_ | refine x_var rfl ?_ | refine x_few (Nat.le_of_ble_eq_true rfl) ?_ | refine x_ixT rfl ?_ | refine x_ixL rfl ?_ | refine x_ixD rfl rfl ?_ | refine x_slD rfl ?_ | refine x_len rfl (Nat.le_of_ble_eq_true rfl) ?_ | refine x_lenO rfl (Nat.le_of_ble_eq_true rfl) ?_ | refine x_pix rfl rfl ?_ | refine x_catL (Nat.le_of_ble_eq_true rfl) ?_ | refine x_catT (Nat.le_of_ble_eq_true rfl) ?_ | refine x_catS (Nat.le_of_ble_eq_true rfl) ?_ | refine x_app rfl (Nat.lt_of_lt_of_le (Nat.lt_succ_self _) (Nat.le_of_ble_eq_true rfl)) ?_ | refine x_ext rfl ?_ | (refine x_isi ?_ ?_; focus (first | rfl | (simp; done))) | (refine x_if_t ?_ ?_; focus (first | rfl | (simp [spO]; done))) | (refine x_if_f ?_ ?_; focus (first | rfl | (simp [spO]; done))))
    exact ⟨by rw [← e3]; simp, rfl⟩
  | @step _ _ p l2 sps2 g0 hs hrest =>
    have hf : firstT N here = some p.1 := by rw [firstT_eq, hs]; rfl
    rw [hf]
    have hm : p ∈ stepsT N here := by rw [hs]; exact List.mem_cons_self
    obtain ⟨u, c, v, q1, q2, q3⟩ := stepsT_part hm
    obtain ⟨⟨a1, a2, a3⟩, a4, a5, a6⟩ := part_good (N := N) q1
    have hd0 := g0.dp
    have g2 : Gd N p.2.2 := by cases hrest <;> assumption
    have hd2 := g2.dp
    have lt := congrArg List.length e3
    simp only [List.length_append, List.length_cons] at lt
    repeat (first | (apply_rules (transparency := .reducible) (exfalso := false) (symm := false) (maxDepth := 1000) only [x_seq, x_next, x_ert, x_enx, x_ret, x_drop, x_asg, x_one, x_par, x_ifS, x_for, x_fo0, x_fo1, x_own, x_setL, x_c, x_nil, x_cons, x_tup, x_lst, x_bin, x_tst, x_exb, x_exi, x_exs, x_exl, x_ext2, x_1l, x_1t, x_1i, x_2i, x_ex1, x_ex2, x_and, x_or, x_not, x_if, x_ifL, x_andV, x_orV, x_notV, x_isi2, x_call, x_nop, x_part, x_sl, x_ownF, x_ownL, x_asL, x_lc, x_seL, x_seT, x_enL, x_enT, x_rng1, x_rng2, x_pset, x_meth, x_gnd, x_I0, x_eqI, x_eqS, x_isN, x_inT, x_in2, x_in5, x_slT, x_slL, x_int, x_listT, x_listL, x_tuple, x_max, x_min, x_rep0, x_rep2]) | refine x_many rfl ?_ | refine x_manyL rfl ?_ | refine x_var rfl ?_ | refine x_few (Nat.le_of_ble_eq_true rfl) ?_ | refine x_ixT rfl ?_ | refine x_ixL rfl ?_ | refine x_ixD rfl rfl ?_ | refine x_slD rfl ?_ | refine x_len rfl (Nat.le_of_ble_eq_true rfl) ?_ | refine x_lenO rfl (Nat.le_of_ble_eq_true rfl) ?_ | refine x_pix rfl rfl ?_ | refine x_catL (Nat.le_of_ble_eq_true rfl) ?_ | refine x_catT (Nat.le_of_ble_eq_true rfl) ?_ | refine x_catS (Nat.le_of_ble_eq_true rfl) ?_ | refine x_app rfl (Nat.lt_of_lt_of_le (Nat.lt_succ_self _) (Nat.le_of_ble_eq_true rfl)) ?_ | refine x_ext rfl ?_ | (refine x_isi ?_ ?_; focus (first | rfl | (simp; done))) | (refine x_if_t ?_ ?_; focus (first | rfl | (simp [spO, spD]; done))) | (refine x_if_f ?_ ?_; focus (first | rfl | (simp [spO, spD]; done))))
    refine x_lenO rfl (by simp; omega) ?_
    walk_at "kpe"
    refine x_if_f (by simp; omega) ?_
    walk_at "kpe"
    refine x_app rfl (by simp; omega) ?_
    walk_at "kpe"
    refine x_f1 (here, p.1, u, c) rfl ⟨q1, by simp only; omega, a3⟩ ?_
    walk_at "kpe"
    refine x_f1 (u, p.2.1, v) rfl ⟨⟨a4 g0.ok, by simp only; omega, a6 g0.ea⟩, q2⟩ ?_
    walk_at "kpe"
    refine x_f1 (here, p.1, v) rfl ⟨by simp [q1], by simp only; omega⟩ ?_
    walk_at "kpe"
    refine x_f1 (here.put p.1 v) rfl (by rw [← q3]; exact ⟨g2.ok, by omega, g2.ea⟩) ?_
    walk_at "kpe"
    refine hB sps2.length _ _ rfl ⟨p.2.2, sps2, acc ++ [p.1], ?_, hrest, rfl, by rw [← e3]; simp, rfl⟩
    rw [q3]; simp [spO]
theorem sc_worked : FnScope ["ground", "term", "most"] ["ground", "term", "most"] d_worked.scope := ⟨rfl, rfl, rfl, by decide +kernel, rfl, by decide +kernel, by decide +kernel⟩
theorem F_worked (Z : Tx P w K mg base) {N : Nm} (hN : N.Ok) : Fn P w K mg base (GC K) "worked" 183 [.int 3000] (spF (fun a : T × List (List Int) × T => [gD N, toD a.1, .int 3000]) (fun a => Way N a.1 a.2.1 a.2.2 ∧ a.2.1.length ≤ 3000) fun a => toD a.2.2) := by
  refine fn_pd Z (k := 182) 44 rfl rfl rfl sc_worked (by decide) (fun fd F => bind_w0 2 rfl F rfl fun T kV doc pm an cdv ct us its h1 h2 => match us, h1, its, h2 with | [_, _], _, [_], _ => ⟨_, rfl, rfl⟩) (fun _ => rfl) (fun f cdv A outer s H E hr => by
    have sc := sc_worked
    exact (dss_cons (ds_expr (de_call (F_need_ground Z) (hr.mono (by omega)) (da_cons (de_var 0) da_nil))) (dss_cons (ds_expr (de_call (F_need_term Z) (hr.mono (by omega)) (da_cons (de_var 1) da_nil))) (dss_cons (ds_expr (de_call (F_need_most Z) (hr.mono (by omega)) (da_cons (de_var 2) da_nil))) (dss_one (ds_ret (de_ix ix_seq d2_ix (de_call (F_gone_way Z hN) (hr.mono (by omega)) (da_cons (de_var 0) (da_cons (de_var 1) (da_cons (de_var 2) da_nil)))) de_int))))))) ?hg
  rintro ⟨t, sps, r⟩ π ⟨hw, h1⟩
  simp only at hw h1
  have gd : Gd N t := by cases hw <;> assumption
  have hd := gd.dp
  walk_at "kpe"
  refine x_f1 (N.all, wRows N) rfl trivial ?_
  walk_at "kpe"
  refine x_f1 t rfl ⟨gd.ok, by omega⟩ ?_
  walk_at "kpe"
  refine x_f1 3000 rfl ⟨by decide, by decide⟩ ?_
  walk_at "kpe"
  refine x_f1 (t, sps, r, 3000) rfl ⟨hw, by simp only; omega, h1⟩ ?_
  walk_at "kpe"
  exact ⟨rfl, rfl⟩
end
end Kp
set_option maxRecDepth 100000
set_option maxHeartbeats 8000000
/-! A29: steps in a manner, to the end -/
namespace Kp
open PySem PySem.Spec L2
theorem gone_word {N : Nm} {t : T} {p : Str × T} (h : goneT N t = some p) : PyData.strOk p.1 = true := by
  have key : p.1 = "give" ∨ p.1 = "eat" ∨ p.1 = "mean" ∨ p.1 = "self" := by
    unfold goneT at h
    split at h
    · cases h; exact .inl rfl
    · cases e : eatT N (.bin .ap _ _) with
      | none => rw [e] at h; cases h
      | some v => rw [e] at h; cases h; exact .inr (.inl rfl)
    · split at h
      · cases h; exact .inr (.inr (.inl rfl))
      · split at h
        · cases h; exact .inr (.inr (.inl rfl))
        · cases h
    · cases h; exact .inr (.inr (.inr rfl))
    · cases h
  rcases key with e | e | e | e <;> rw [e] <;> decide +kernel
theorem dats_map {α : Type} {f : α → D} : ∀ {l : List α}, (∀ x ∈ l, dat (f x) = true) → dats (l.map f) = true
  | [], _ => rfl
  | x :: l, h => by
    have h1 := h x List.mem_cons_self
    have h2 := dats_map fun y hy => h y (List.mem_cons_of_mem x hy)
    simp only [List.map_cons, dats, h1, h2]; rfl
theorem deps_map {α : Type} {f : α → D} {c : Nat} : ∀ {l : List α}, (∀ x ∈ l, dep (f x) ≤ c) → deps (l.map f) ≤ c
  | [], _ => by simp [deps]
  | x :: l, h => by
    have h1 := h x List.mem_cons_self
    have h2 := deps_map fun y hy => h y (List.mem_cons_of_mem x hy)
    simp only [List.map_cons, deps]; omega
theorem eqd_map_nil {α : Type} {f : α → D} (l : List α) : eqd (.lst (l.map f)) (.lst []) = l.isEmpty := by
  cases l with
  | nil => rfl
  | cons i is => rw [List.map_cons, eqd_n0]; rfl
theorem stp_dat {N : Nm} {d m f : Nat} {r t : T} (h : Ev N d m r f t) (hd : d ≤ 56) : ∀ p ∈ stepsT N t, dat (stpD p) = true ∧ dep (stpD p) ≤ 57 := fun p hp => by
  obtain ⟨g, _, e⟩ := h.out p hp
  obtain ⟨u, c, v, _, h2, _⟩ := stepsT_part hp
  have hw := gone_word h2
  have hb := e.bd
  constructor
  · simp only [stpD, dat, dats, dat_spD, hw, T.dat hb.ok]; rfl
  · have h1 := dep_spD p.1
    have h3 := T.depD p.2.2
    have h4 := hb.dp
    simp only [stpD, dep, deps, h1, h3]; omega
section
variable {P : Program} {w : World} {K : PySem.W.Frag} {mg : Str → Option Value} {base : Heap}
abbrev sp_end (N : Nm) : SpecD := fun ds π Q => ∃ (a : Addr) (n : Nat) (r t : T) (c : Nat), ds = [.adr a, gD N, toD t, .int (c : Nat)] ∧ (c ≤ 3 ∧ Ev N 37 39628 r 283 t) ∧ PuOk n a π ∧ n + 400 ≤ 1000000000 ∧ ∀ π', PuOk (n + 400) a π' → Q (toD r) π'
theorem sc_law_end : FnScope ["_law_purse_here", "_law_ground", "_law_term", "_law_manner", "_law_here", "_law_turn", "_law_some", "_law_at", "_law_after"] ["_law_purse_here", "_law_ground", "_law_term", "_law_manner"] d_law_end.scope := ⟨rfl, rfl, rfl, by decide +kernel, rfl, by decide +kernel, by decide +kernel⟩
theorem F_end (Z : Tx P w K mg base) {N : Nm} (hN : N.Ok) : Fn P w K mg base (GC K) "_law_end" 182 [] (sp_end N) := by
  refine fn_m0 Z (k := 181) 59 rfl rfl rfl rfl sc_law_end (by decide) (fun _ _ _ _ _ _ us hl => match us, hl with | [_, _, _, _], _ => rfl) ?hl ?hm (fun f cdv A outer s H E hr => by
    have sc := sc_law_end
    exact (dss_cons (ds_set (i := 4) sc.nd (de_var 2)) (dss_cons (ds_for (di_range1 rfl Z.f_range (da_cons de_int da_nil)) (dg_name (i := 5) sc.nd) (dss_cons (ds_set (i := 6) sc.nd (de_call (F_steps Z hN) (hr.mono (by omega)) (da_cons (de_var 1) (da_cons (de_var 4) da_nil)))) (dss_cons (ds_if (dt_cmp (op_eqD hr.units) d2_eqD (de_var 6) (de_lst da_nil) (nomark _)) (dss_one (ds_ret (de_var 4))) dss_nil) (dss_cons (ds_set (i := 7) sc.nd (de_ix ix_seq d2_ix (de_lst (da_cons de_int (da_cons (de_bin op_sub d2_subI (de_callB call_len dc_len rfl Z.f_len rfl (da_cons (de_var 6) da_nil)) de_int) (da_cons (de_call (F_take Z) (hr.mono (by omega)) (da_cons (de_var 0) (da_cons (de_callB call_len dc_len rfl Z.f_len rfl (da_cons (de_var 6) da_nil)) da_nil))) (da_cons (de_bin op_fdiv d2_divI (de_callB call_len dc_len rfl Z.f_len rfl (da_cons (de_var 6) da_nil)) de_int) da_nil))))) (de_var 3))) (dss_cons (ds_set (i := 8) sc.nd (de_call (F_stepped Z hN) (hr.mono (by omega)) (da_cons (de_var 1) (da_cons (de_var 4) (da_cons (de_ix ix_seq d2_ix (de_ix ix_seq d2_ix (de_var 6) (de_var 7)) de_int) da_nil))))) (dss_cons (ds_if (dt_cmp (op_neD hr.units) d2_neD (de_var 8) (de_ix ix_seq d2_ix (de_ix ix_seq d2_ix (de_var 6) (de_var 7)) de_int) (nomark _)) (dss_one (ds_ret de_non)) dss_nil) (dss_one (ds_set (i := 4) sc.nd (de_var 8))))))))) (dss_one (ds_ret de_non))))) ?hg
  case hl =>
    rintro ds π Q ⟨a, n, r, t, c, e, _⟩
    rw [e]; rfl
  case hm =>
    rintro ds π Q Q' q ⟨a, n, r, t, c, e, h1, h2, h3, h4⟩
    exact ⟨a, n, r, t, c, e, h1, h2, h3, fun π' g => q _ _ (h4 π' g)⟩
  rintro ds π Q ⟨a, n, r, t, c, e, ⟨c3, ev⟩, hp, hc, q⟩
  subst e
  have fx := hp.fix
  walk_at "kpm"
  refine ⟨by decide, by decide, ?_⟩
  refine foD_inv (I := fun ds ρ π' => ∃ (f : Nat) (t' : T) (z1 z2 z3 z4 : Sl), f < ds.length ∧ ds.length ≤ 400 ∧ Ev N 37 39628 r f t' ∧ PuOk (n + (400 - ds.length)) a π' ∧ ρ = [.pu (.adr a), .pu (gD N), .pu (toD t), .pu (.int (c : Nat)), .pu (toD t'), z1, z2, z3, z4]) ?_ ?_ ⟨283, t, _, _, _, _, by simp [rngD], by simp [rngD], ev, by simpa [rngD] using hp, rfl⟩
  · rintro ρ π' ⟨f, t', z1, z2, z3, z4, h1, _⟩
    exact absurd h1 (Nat.not_lt_zero _)
  · rintro d ds ρ π' B ⟨f, t', z1, z2, z3, z4, h1, h2, h3, h4, rfl⟩ hB
    simp only [List.length_cons] at h1 h2 h4
    have g := h3.gd (by decide) (by decide)
    have hsz := stepsT_len N t'
    have hs := h3.bd.sz
    have sd := stp_dat h3 (by decide)
    walk_at "kpm"
    refine x_f1 t' rfl g ?_
    walk_at "kpm"
    refine x_eqD (by simp only [dat]; exact dats_map fun p hp => (sd p hp).1) rfl (by have := deps_map fun p hp => (sd p hp).2; simp only [dep]; omega) (by decide) ?_
    rw [eqd_map_nil]
    walk_at "kpm"
    cases hst : stepsT N t' with
    | nil =>
      walk_at "kpm"
      show Q _ (fixP π π')
      rw [fx, h3.nf hst]
      exact q π' (h4.up (by omega))
    | cons p0 l0 =>
      have hlen : 0 < (stepsT N t').length := by rw [hst]; exact Nat.succ_pos _
      rw [← hst]
      refine x_if_f (by rw [hst]; rfl) ?_
      walk_at "kpm"
      refine x_len rfl (by simp only [List.length_map]; omega) ?_
      walk_at "kpm"
      refine x_len rfl (by simp only [List.length_map]; omega) ?_
      walk_at "kpm"
      simp only [List.length_map]
      refine x_take h4 (by omega) ⟨by omega, by omega⟩ fun j π2 j0 j1 hp2 => ?_
      walk_at "kpm"
      refine x_len rfl (by simp only [List.length_map]; omega) ?_
      walk_at "kpm"
      refine x_I ⟨by decide, by decide⟩ ?_
      walk_at "kpm"
      simp only [List.length_map]
      obtain ⟨i, hi, hpick⟩ : ∃ i : Nat, i < (stepsT N t').length ∧ atI [D.int 0, .int (((stepsT N t').length : Nat) - 1), .int j, .int (((stepsT N t').length : Nat) / 2)] (c : Nat) = some (.int (i : Nat)) := by
        obtain ⟨j, rfl⟩ := Int.eq_ofNat_of_zero_le j0
        match c, c3 with
        | 0, _ => exact ⟨0, hlen, rfl⟩
        | 1, _ => exact ⟨(stepsT N t').length - 1, by omega, (by show some (D.int (((stepsT N t').length : Nat) - 1)) = _; congr 2; omega)⟩
        | 2, _ => exact ⟨j, by omega, rfl⟩
        | 3, _ => exact ⟨(stepsT N t').length / 2, by omega, (by show some (D.int (((stepsT N t').length : Nat) / 2)) = _; congr 2)⟩
      refine x_ixL hpick ?_
      have hm := List.getElem_mem hi
      obtain ⟨u, cc, v, e1, e2, e3⟩ := stepsT_part hm
      obtain ⟨f', rfl, ev'⟩ := h3.out _ hm
      walk_at "kpm"
      refine x_ixL (d := stpD (stepsT N t')[i]) (by rw [atI_nat, List.getElem?_map, List.getElem?_eq_getElem hi]; rfl) ?_
      walk_at "kpm"
      refine x_f1 (t', (stepsT N t')[i].1, u, cc, ((stepsT N t')[i].2.1, v)) rfl ⟨g, e1, e2⟩ ?_
      simp only
      rw [← e3]
      walk_at "kpm"
      refine x_ixL (d := stpD (stepsT N t')[i]) (by rw [atI_nat, List.getElem?_map, List.getElem?_eq_getElem hi]; rfl) ?_
      walk_at "kpm"
      refine x_eqD (T.dat ev'.bd.ok) (T.dat ev'.bd.ok) (by rw [T.depD]; have := ev'.bd.dp; omega) (by rw [T.depD]; have := ev'.bd.dp; omega) ?_
      rw [eqd_toD, decide_eq_true rfl]
      walk_at "kpm"
      exact hB _ _ ⟨f', _, _, _, _, _, by omega, by omega, ev', hp2.up (by omega), rfl⟩
end
end Kp
set_option maxRecDepth 100000
set_option maxHeartbeats 8000000
/-! A30: the world's rows -/
namespace Kp
open PySem PySem.Spec L2
theorem cut5 (N : Nm) : cutD (N.all.map D.str) none (some 5) = [.str N.num, .str N.bit, .str N.none, .str N.both, .str N.either] := cutD_to _ 5
theorem cut5b (N : Nm) : cutD (N.all.map D.str) (some 5) none = [.str N.line, .str N.tree, .str N.two, .str N.flip, .str N.held] := cutD_from _ 5
section
variable {P : Program} {w : World} {K : PySem.W.Frag} {mg : Str → Option Value} {base : Heap}
theorem sc_law_world : FnScope ["_law_names_here", "_law_num", "_law_bit", "_law_none", "_law_both", "_law_either", "_law_line", "_law_tree", "_law_two", "_law_flip", "_law_held", "_law_zero", "_law_kind", "_law_rows", "_law_flips"] ["_law_names_here"] d_law_world.scope := ⟨rfl, rfl, rfl, by decide +kernel, rfl, by decide +kernel, by decide +kernel⟩
theorem F_world (Z : Tx P w K mg base) {N : Nm} (hN : N.Ok) : Fn P w K mg base (GC K) "_law_world" 2 [] (spF (fun _ : Unit => [nmD N]) (fun _ => True) fun _ => .lst (wRows N)) := by
  refine fn_p0 Z (k := 1) 50 rfl rfl rfl rfl sc_law_world (by decide) (fun _ _ _ _ _ _ us hl => match us, hl with | [_], _ => rfl) (fun _ => rfl) (fun f cdv A outer s H E hr => by
    have sc := sc_law_world
    exact (dss_cons (ds_asg (de_slice (de_var 0) do_none (do_some de_int)) (dg_unl rfl (dgs_cons (i := 1) sc.nd (dgs_cons (i := 2) sc.nd (dgs_cons (i := 3) sc.nd (dgs_cons (i := 4) sc.nd (dgs_cons (i := 5) sc.nd dgs_nil))))))) (dss_cons (ds_asg (de_slice (de_var 0) (do_some de_int) do_none) (dg_unl rfl (dgs_cons (i := 6) sc.nd (dgs_cons (i := 7) sc.nd (dgs_cons (i := 8) sc.nd (dgs_cons (i := 9) sc.nd (dgs_cons (i := 10) sc.nd dgs_nil))))))) (dss_cons (ds_par (i := 11) (j := 12) rfl sc.nd (da_cons (de_tup (da_cons de_str (da_cons de_int da_nil))) (da_cons (de_tup (da_cons de_str (da_cons (de_var 2) da_nil))) da_nil))) (dss_cons (ds_own (i := 13) sc.nd (dl_lst (da_cons (de_tup (da_cons de_str (da_cons (de_var 1) (da_cons de_int (da_cons (de_tup da_nil) (da_cons (de_tup (da_cons (de_tup da_nil) (da_cons (de_tup (da_cons (de_tup (da_cons de_str (da_cons (de_var 1) da_nil))) da_nil)) da_nil))) da_nil)))))) (da_cons (de_tup (da_cons de_str (da_cons (de_var 2) (da_cons de_int (da_cons (de_tup da_nil) (da_cons (de_tup (da_cons (de_tup da_nil) (da_cons (de_tup da_nil) da_nil))) da_nil)))))) da_nil)))) (dss_cons (ds_append 13 (de_tup (da_cons de_str (da_cons (de_var 3) (da_cons de_int (da_cons (de_tup da_nil) (da_cons (de_tup da_nil) da_nil))))))) (dss_cons (ds_append 13 (de_tup (da_cons de_str (da_cons (de_var 4) (da_cons de_int (da_cons (de_tup (da_cons (de_var 11) (da_cons (de_var 11) da_nil))) (da_cons (de_tup (da_cons (de_tup (da_cons (de_tup (da_cons de_str (da_cons de_int da_nil))) (da_cons (de_tup (da_cons de_str (da_cons de_int da_nil))) da_nil))) da_nil)) da_nil))))))) (dss_cons (ds_append 13 (de_tup (da_cons de_str (da_cons (de_var 5) (da_cons de_int (da_cons (de_tup (da_cons (de_var 11) (da_cons (de_var 11) da_nil))) (da_cons (de_tup (da_cons (de_tup (da_cons (de_tup (da_cons de_str (da_cons de_int da_nil))) da_nil)) (da_cons (de_tup (da_cons (de_tup (da_cons de_str (da_cons de_int da_nil))) da_nil)) da_nil))) da_nil))))))) (dss_cons (ds_append 13 (de_tup (da_cons de_str (da_cons (de_var 6) (da_cons de_int (da_cons (de_tup (da_cons (de_var 11) da_nil)) (da_cons (de_tup (da_cons (de_tup da_nil) (da_cons (de_tup (da_cons (de_tup (da_cons de_str (da_cons de_int da_nil))) (da_cons (de_tup (da_cons de_str (da_cons (de_tup (da_cons de_str (da_cons (de_var 6) da_nil))) (da_cons (de_tup (da_cons de_str (da_cons de_int da_nil))) da_nil)))) da_nil))) da_nil))) da_nil))))))) (dss_cons (ds_append 13 (de_tup (da_cons de_str (da_cons (de_var 7) (da_cons de_int (da_cons (de_tup da_nil) (da_cons (de_tup (da_cons (de_tup da_nil) (da_cons (de_tup (da_cons (de_tup (da_cons de_str (da_cons (de_tup (da_cons de_str (da_cons (de_var 1) da_nil))) (da_cons (de_tup (da_cons de_str (da_cons (de_var 7) da_nil))) da_nil)))) da_nil)) da_nil))) da_nil))))))) (dss_cons (ds_append 13 (de_tup (da_cons de_str (da_cons (de_var 8) (da_cons (de_tup (da_cons de_str (da_cons (de_var 1) da_nil))) (da_cons (de_call (F_law_number Z N) (hr.mono (by omega)) (da_cons (de_var 0) (da_cons de_int da_nil))) da_nil)))))) (dss_cons (ds_set (i := 14) sc.nd (de_call (F_law_app Z) (hr.mono (by omega)) (da_cons (de_tup (da_cons de_str (da_cons (de_var 2) (da_cons de_int da_nil)))) (da_cons (de_lst (da_cons (de_tup (da_cons de_str (da_cons (de_var 12) (da_cons (de_var 12) da_nil)))) (da_cons (de_tup (da_cons de_str (da_cons (de_var 2) (da_cons de_int da_nil)))) (da_cons (de_tup (da_cons de_str (da_cons (de_var 2) (da_cons de_int da_nil)))) (da_cons (de_tup (da_cons de_str (da_cons de_int da_nil))) da_nil))))) da_nil)))) (dss_cons (ds_append 13 (de_tup (da_cons de_str (da_cons (de_var 9) (da_cons (de_tup (da_cons de_str (da_cons (de_var 12) (da_cons (de_var 12) da_nil)))) (da_cons (de_tup (da_cons de_str (da_cons (de_var 12) (da_cons (de_var 14) da_nil)))) da_nil)))))) (dss_cons (ds_append 13 (de_tup (da_cons de_str (da_cons (de_var 10) (da_cons (de_tup (da_cons de_str (da_cons (de_tup (da_cons de_str (da_cons (de_var 1) da_nil))) (da_cons (de_tup (da_cons de_str (da_cons (de_var 1) da_nil))) da_nil)))) da_nil))))) (dss_one (ds_frz 13 (ds_ret (de_var 13)))))))))))))))))) ?hg
  rintro _ π _
  walk_at "kpm"
  refine x_slL (ds := N.all.map D.str) ?_
  rw [cut5]
  walk_at "kpm"
  refine x_slL (ds := N.all.map D.str) ?_
  rw [cut5b]
  walk_at "kpm"
  refine x_f1 2 rfl (by decide) ?_
  walk_at "kpm"
  refine x_f1 (.leaf (.eater N.bit 0), [tFn (tTh N.bit) (tTh N.bit), tMk N.bit 1, tMk N.bit 0, .var 0]) rfl trivial ?_
  walk_at "kpm"
  exact ⟨rfl, rfl⟩
end
end Kp
set_option maxRecDepth 100000
set_option maxHeartbeats 4000000
/-! M11: texts by their signs; names that are unlike and good -/
namespace Kp
open PySem PySem.Spec L2
/-- a text of these signs -/
def tx (l : List Nat) : Str := ⟨l.toArray⟩
@[simp] theorem tx_list (l : List Nat) : (tx l).cps.toList = l := by simp [tx]
@[simp] theorem tx_len (l : List Nat) : (tx l).length = l.length := by simp [tx, Str.length]
theorem tx_inj {a b : List Nat} (h : tx a = tx b) : a = b := by
  have := congrArg (fun s : Str => s.cps.toList) h
  simpa using this
theorem tx_app (a b : List Nat) : tx a ++ tx b = tx (a ++ b) := by
  show (⟨a.toArray ++ b.toArray⟩ : Str) = ⟨(a ++ b).toArray⟩
  simp
theorem tx_one (c : Nat) : (⟨#[c]⟩ : Str) = tx [c] := rfl
theorem sIx_nat' (len n : Nat) (d : Nat) : HT.sIx len d (some (n : Int)) = min n len := HT.sIx_nat _ _ _
theorem cutS_to (l : List Nat) (n : Nat) : cutS (tx l) none (some (n : Int)) = tx (l.take n) := by
  unfold cutS
  rw [HT.sIx_nat, HT.sIx_none, tx_list, tx_len, List.drop_zero, Nat.sub_zero]
  show tx _ = _
  congr 1
  by_cases h : n ≤ l.length
  · rw [Nat.min_eq_left h]
  · rw [Nat.min_eq_right (by omega), List.take_length, List.take_of_length_le (by omega)]
theorem cutS_from (l : List Nat) (n : Nat) : cutS (tx l) (some (n : Int)) none = tx (l.drop n) := by
  unfold cutS
  rw [HT.sIx_nat, HT.sIx_none, tx_list, tx_len]
  show tx _ = _
  congr 1
  by_cases h : n ≤ l.length
  · rw [Nat.min_eq_left h, List.take_of_length_le (by rw [List.length_drop]; exact Nat.le_refl _)]
  · rw [Nat.min_eq_right (by omega), List.drop_eq_nil_of_le (show l.length ≤ n by omega), List.drop_eq_nil_of_le (Nat.le_refl _)]; simp
theorem cutS_mid (l : List Nat) (a b : Nat) (hab : a ≤ b) (hb : b ≤ l.length) : cutS (tx l) (some (a : Int)) (some (b : Int)) = tx ((l.drop a).take (b - a)) := by
  unfold cutS
  rw [HT.sIx_nat, HT.sIx_nat, tx_list, tx_len, Nat.min_eq_left hb, Nat.min_eq_left (by omega)]
  rfl
theorem join_signs : ∀ cs : List Nat, Txt.join ("" : Str) (cs.map fun c => tx [c]) = tx cs := by
  intro cs
  rw [TL.join_eq]
  induction cs with
  | nil => rfl
  | cons c r ih =>
    cases r with
    | nil => rfl
    | cons c2 r2 =>
      show tx [c] ++ ("" : Str) ++ Str.join ("" : Str) ((c2 :: r2).map fun c => tx [c]) = _
      rw [ih]
      have e : ("" : Str) = tx [] := rfl
      rw [e, tx_app, tx_app]; rfl
/-- the small letters -/
def lets : List Nat := (List.range 26).map fun i => 97 + i
theorem lets_eq : ("abcdefghijklmnopqrstuvwxyz" : Str) = tx lets := by decide +kernel
theorem lets_mem {c : Nat} : c ∈ lets ↔ 97 ≤ c ∧ c ≤ 122 := by
  unfold lets
  rw [List.mem_map]
  constructor
  · rintro ⟨i, hi, rfl⟩
    have := List.mem_range.mp hi
    omega
  · rintro ⟨h1, h2⟩
    exact ⟨c - 97, List.mem_range.mpr (by omega), by omega⟩
theorem lets_at {i : Int} (h0 : 0 ≤ i) (h1 : i < 26) : atI lets i = some (97 + i.toNat) := by
  obtain ⟨n, rfl⟩ := Int.eq_ofNat_of_zero_le h0
  rw [atI_nat]
  unfold lets
  have hn : n < 26 := by omega
  simp [hn]
theorem lets_index {c : Nat} (h : c ∈ lets) : ∃ rest, Builtin.Str.occurrences (tx lets) (tx [c]) 0 (tx lets).length 1 = (c - 97) :: rest := by
  have key : ∀ i : Nat, i < 26 → Builtin.Str.occurrences (tx lets) (tx [97 + i]) 0 (tx lets).length 1 = [i] := by
    have : ((List.range 26).all fun i => decide (Builtin.Str.occurrences (tx lets) (tx [97 + i]) 0 (tx lets).length 1 = [i])) = true := by decide +kernel
    intro i hi
    exact of_decide_eq_true (List.all_eq_true.mp this i (List.mem_range.mpr hi))
  obtain ⟨h1, h2⟩ := lets_mem.mp h
  have := key (c - 97) (by omega)
  rw [show 97 + (c - 97) = c by omega] at this
  exact ⟨[], this⟩
/-- the words that are kept, by signs -/
def kpt : List (List Nat) := [[97, 108, 108], [102, 117, 110], [115, 97, 109, 101], [115, 101, 108, 102], [112, 117, 116]]
theorem kept_tx : keptD = kpt.map tx := by decide +kernel
theorem tx_kept {l : List Nat} : tx l ∈ keptD ↔ l ∈ kpt := by
  rw [kept_tx, List.mem_map]
  exact ⟨fun ⟨a, h, e⟩ => tx_inj e ▸ h, fun h => ⟨l, h, rfl⟩⟩
/-- none that is kept -/
def fq (w : List Nat) : List Nat := if w ∈ kpt then 113 :: w else w
theorem fq_nodup {ws : List (List Nat)} (nd : ws.Nodup) (h : ∀ w ∈ ws, w ∈ kpt → 113 :: w ∉ ws) : (ws.map fq).Nodup := by
  unfold List.Nodup at nd ⊢
  rw [List.pairwise_map]
  refine List.Pairwise.imp_of_mem (fun {a b} ha hb hab e => ?_) nd
  unfold fq at e
  by_cases h1 : a ∈ kpt
  · by_cases h2 : b ∈ kpt
    · rw [if_pos h1, if_pos h2] at e
      exact hab (List.cons.inj e).2
    · rw [if_pos h1, if_neg h2] at e
      exact h a ha h1 (e ▸ hb)
  · by_cases h2 : b ∈ kpt
    · rw [if_neg h1, if_pos h2] at e
      exact h b hb h2 (e ▸ ha)
    · rw [if_neg h1, if_neg h2] at e
      exact hab e
theorem fq_ok {w : List Nat} (h1 : 1 ≤ w.length) (h2 : w.length ≤ 7) (h3 : ∀ c ∈ w, c ∈ lets) : okName (tx (fq w)) := by
  unfold fq
  by_cases hk : w ∈ kpt
  · rw [if_pos hk]
    refine ⟨by simp, by simp; omega, ?_, ?_⟩
    · rw [tx_kept]
      intro hq
      have : ∀ v ∈ kpt, 113 :: v ∉ kpt := by decide
      exact this w hk hq
    · intro c hc
      rw [tx_list] at hc
      have e : ("abcdefghijklmnopqrstuvwxyz" : Str).cps.toList = lets := by rw [lets_eq, tx_list]
      rw [e]
      rcases List.mem_cons.mp hc with e | hc
      · rw [e]; exact lets_mem.mpr (by omega)
      · exact h3 c hc
  · rw [if_neg hk]
    refine ⟨by simpa using h1, by simp; omega, ?_, ?_⟩
    · rw [tx_kept]; exact hk
    · intro c hc
      rw [tx_list] at hc
      have e : ("abcdefghijklmnopqrstuvwxyz" : Str).cps.toList = lets := by rw [lets_eq, tx_list]
      rw [e]; exact h3 c hc
/-- the two kinds of rows of names -/
def ws1 (s : List Nat) (f : Nat) : List (List Nat) := (List.range 7).map (fun k => s.take (1 + k)) ++ ([1, 2, 3].map fun k => (97 + (f + k) % 26) :: (s.drop 1).take 2)
def ws2 (p q : List Nat) (f : Nat) : List (List Nat) := (List.range 10).map fun k => p ++ (97 + (f + 7 * k) % 26) :: q
theorem ws1_good {s : List Nat} (hl : s.length = 7) (hs : ∀ c ∈ s, c ∈ lets) {c0 : Nat} (h0 : s[0]? = some c0) : ((ws1 s (c0 - 97)).map fq).Nodup ∧ ∀ w ∈ ws1 s (c0 - 97), okName (tx (fq w)) := by
  match s, hl with
  | [a, b, c, d, e, f, g], _ =>
    have ea : a = c0 := by simpa using h0
    subst ea
    have ha := lets_mem.mp (hs a (by simp))
    have ew : ws1 [a, b, c, d, e, f, g] (a - 97) = [[a], [a, b], [a, b, c], [a, b, c, d], [a, b, c, d, e], [a, b, c, d, e, f], [a, b, c, d, e, f, g], [97 + (a - 97 + 1) % 26, b, c], [97 + (a - 97 + 2) % 26, b, c], [97 + (a - 97 + 3) % 26, b, c]] := rfl
    rw [ew]
    have hm : ∀ k : Nat, (97 + (a - 97 + k) % 26) ∈ lets := fun k => lets_mem.mpr (by omega)
    constructor
    · refine fq_nodup ?_ ?_
      · simp; omega
      · intro w hw hk hq
        simp only [kpt, List.mem_cons, List.not_mem_nil, or_false] at hk
        rcases hk with rfl | rfl | rfl | rfl | rfl <;> simp at hw hq <;> omega
    · intro w hw
      have hb := hs b (by simp)
      have hc := hs c (by simp)
      simp only [List.mem_cons, List.not_mem_nil, or_false] at hw
      rcases hw with rfl | rfl | rfl | rfl | rfl | rfl | rfl | rfl | rfl | rfl
      all_goals refine fq_ok (by simp) (by simp) fun x hx => ?_
      all_goals simp only [List.mem_cons, List.not_mem_nil, or_false] at hx
      · rw [hx]; exact hs a (by simp)
      · rcases hx with rfl | rfl <;> exact hs _ (by simp)
      · rcases hx with rfl | rfl | rfl <;> exact hs _ (by simp)
      · rcases hx with rfl | rfl | rfl | rfl <;> exact hs _ (by simp)
      · rcases hx with rfl | rfl | rfl | rfl | rfl <;> exact hs _ (by simp)
      · rcases hx with rfl | rfl | rfl | rfl | rfl | rfl <;> exact hs _ (by simp)
      · rcases hx with rfl | rfl | rfl | rfl | rfl | rfl | rfl <;> exact hs _ (by simp)
      · rcases hx with rfl | rfl | rfl <;> first | exact hm _ | exact hb | exact hc
      · rcases hx with rfl | rfl | rfl <;> first | exact hm _ | exact hb | exact hc
      · rcases hx with rfl | rfl | rfl <;> first | exact hm _ | exact hb | exact hc
theorem ws2_good {p q : List Nat} {f : Nat} (hl : p.length + q.length ≤ 6) (hp : ∀ c ∈ p, c ∈ lets) (hq : ∀ c ∈ q, c ∈ lets) : ((ws2 p q f).map fq).Nodup ∧ ∀ w ∈ ws2 p q f, okName (tx (fq w)) := by
  have len : ∀ w ∈ ws2 p q f, w.length = p.length + q.length + 1 := fun w hw => by
    obtain ⟨k, _, rfl⟩ := List.mem_map.mp hw
    simp only [List.length_append, List.length_cons]; omega
  constructor
  · refine fq_nodup ?_ ?_
    · unfold ws2 List.Nodup
      rw [List.pairwise_map]
      refine List.Pairwise.imp_of_mem (fun {a b} ha hb hab e => ?_) (List.nodup_range (n := 10))
      have ha' := List.mem_range.mp ha
      have hb' := List.mem_range.mp hb
      have e2 := List.append_cancel_left e
      have e3 := (List.cons.inj e2).1
      omega
    · intro w hw _ hq'
      have h1 := len w hw
      have h2 := len _ hq'
      simp only [List.length_cons] at h2
      omega
  · intro w hw
    have h1 := len w hw
    obtain ⟨k, _, rfl⟩ := List.mem_map.mp hw
    refine fq_ok (by omega) (by omega) fun x hx => ?_
    rcases List.mem_append.mp hx with hx | hx
    · exact hp x hx
    · rcases List.mem_cons.mp hx with e | hx
      · rw [e]; exact lets_mem.mpr (by omega)
      · exact hq x hx
/-- ten unlike good names are a world's -/
theorem nm_of {ws : List (List Nat)} (hl : ws.length = 10) (nd : (ws.map fq).Nodup) (ok : ∀ w ∈ ws, okName (tx (fq w))) : ∃ N : Nm, N.Ok ∧ N.all = ws.map fun w => tx (fq w) := by
  match ws, hl with
  | [a, b, c, d, e, f, g, h, i, j], _ =>
    refine ⟨⟨tx (fq a), tx (fq b), tx (fq c), tx (fq d), tx (fq e), tx (fq f), tx (fq g), tx (fq h), tx (fq i), tx (fq j)⟩, ⟨?_, ?_⟩, rfl⟩
    · have : ((([a, b, c, d, e, f, g, h, i, j] : List (List Nat)).map fq).map tx).Nodup := by
        unfold List.Nodup at nd ⊢
        rw [List.pairwise_map]
        exact nd.imp fun h e => h (tx_inj e)
      exact this
    · intro s hs
      have : s ∈ ([a, b, c, d, e, f, g, h, i, j] : List (List Nat)).map fun w => tx (fq w) := hs
      obtain ⟨w, hw, rfl⟩ := List.mem_map.mp this
      exact ok w hw
end Kp
set_option maxRecDepth 100000
set_option maxHeartbeats 8000000
/-! A31: names that are unlike -/
namespace Kp
open PySem PySem.Spec L2
theorem cutS13 (l : List Nat) (h : 3 ≤ l.length) : cutS (tx l) (some 1) (some 3) = tx ((l.drop 1).take 2) := cutS_mid l 1 3 (by decide) h
theorem names_fin {ws : List (List Nat)} {x0 x1 x2 x4 x5 x6 x7 x8 x9 : Sl} {π : Pu} {QL : List D → Pu → Prop} (hl : ws.length = 10) (hw : ∀ w ∈ ws, w.length ≤ 7) (q : QL (ws.map fun w => .str (tx (fq w))) π) :
    lcD (.one 9) (dIf (dTst (dBin (kInT false) (dVar 9) (dVar 3))) (dBin kCatS (dC (.str "q")) (dVar 9)) (dVar 9)) [x0, x1, x2, .pu (.tup [.str "all", .str "fun", .str "same", .str "self", .str "put"]), x4, x5, x6, x7, x8, x9] (ws.map fun w => .str (tx w)) [] π QL := by
  refine lcD_map (h := fun w => .str (tx (fq w))) (fun w hw' K hK => ?_) (by rw [hl]; decide) q
  unfold fq at hK
  by_cases hk : w ∈ kpt
  · rw [if_pos hk] at hK
    have hin : tx w ∈ keptD := tx_kept.mpr hk
    walk_at "kpm"
    refine x_if_t (decide_eq_true hin) ?_
    walk_at "kpm"
    have eq : ("q" : Str) = tx [113] := rfl
    rw [eq]
    have := hw w hw'
    refine x_catS (by rw [tx_len, tx_len, List.length_singleton]; omega) ?_
    rw [tx_app]
    exact hK
  · rw [if_neg hk] at hK
    have hin : ¬ tx w ∈ keptD := fun h => hk (tx_kept.mp h)
    walk_at "kpm"
    refine x_if_f (decide_eq_false hin) ?_
    walk_at "kpm"
    exact hK
section
variable {P : Program} {w : World} {K : PySem.W.Frag} {mg : Str → Option Value} {base : Heap}
abbrev sp_names : SpecD := fun ds π Q => ∃ (a : Addr) (n : Nat), ds = [.adr a, .int 10] ∧ PuOk n a π ∧ n + 20 ≤ 1000000000 ∧ ∀ (N : Nm) π', N.Ok → PuOk (n + 20) a π' → Q (nmD N) π'
theorem sc_law_names : FnScope ["_law_purse_here", "_law_many", "_law_letters", "_law_kept", "_law_stem", "_law_k", "_law_found", "_law_first", "_law_at", "_law_word"] ["_law_purse_here", "_law_many"] d_law_names.scope := ⟨rfl, rfl, rfl, by decide +kernel, rfl, by decide +kernel, by decide +kernel⟩
theorem F_names (Z : Tx P w K mg base) : Fn P w K mg base (GC K) "_law_names" 2 [] sp_names := by
  refine fn_m0 Z (k := 1) 48 rfl rfl rfl rfl sc_law_names (by decide) (fun _ _ _ _ _ _ us hl => match us, hl with | [_, _], _ => rfl) ?hl ?hm (fun f cdv A outer s H E hr => by
    have sc := sc_law_names
    exact (dss_cons (ds_set (i := 2) sc.nd de_str) (dss_cons (ds_set (i := 3) sc.nd (de_tup (da_cons de_str (da_cons de_str (da_cons de_str (da_cons de_str (da_cons de_str da_nil))))))) (dss_cons (ds_set (i := 4) sc.nd (de_join de_str (DL.de (dl_lc rfl sc.nd (di_range1 rfl Z.f_range (da_cons de_int da_nil)) (blkOk_by (N := ["_law_purse_here", "_law_many", "_law_letters", "_law_kept", "_law_stem", "_law_k", "_law_found", "_law_first", "_law_at", "_law_word"]) (sc := d_law_names.scope) (own := [("_law_k", 5)]) (by decide +kernel)) (by decide) (fun _ _ _ _ _ => (dg_name (i := 5) sc.nd)) (fun _ _ _ _ _ => (de_ix ix_seq d2_ix (de_var 2) (de_call (F_take Z) (hr.mono (by omega)) (da_cons (de_var 0) (da_cons de_int da_nil))))))))) (dss_cons (ds_if (dt_cmp op_eq d2_eqS (de_call (F_take Z) (hr.mono (by omega)) (da_cons (de_var 0) (da_cons de_int da_nil))) de_int (nomark _)) (dss_cons (ds_setLc (i := 6) rfl sc.nd (di_range1 rfl Z.f_range (da_cons (de_callB (call_min2 rfl) dc_min rfl Z.f_min rfl (da_cons de_int (da_cons (de_var 1) da_nil))) da_nil)) (blkOk_by (N := ["_law_purse_here", "_law_many", "_law_letters", "_law_kept", "_law_stem", "_law_k", "_law_found", "_law_first", "_law_at", "_law_word"]) (sc := d_law_names.scope) (own := [("_law_k", 5)]) (by decide +kernel)) (by decide) (fun _ _ _ _ _ => (dg_name (i := 5) sc.nd)) (fun _ _ _ _ _ => (de_slice (de_var 4) do_none (do_some (de_bin op_add d2_addI de_int (de_var 5))))) rfl) (dss_cons (ds_set (i := 7) sc.nd (de_idx (de_var 2) (de_ix ix_seq d2_ix (de_var 4) de_int))) (dss_one (ds_set (i := 6) sc.nd (de_bin op_cat d2_catL (de_var 6) (DL.de (dl_lc rfl sc.nd (di_range2 rfl Z.f_range (da_cons de_int (da_cons (de_bin op_sub d2_subI (de_bin op_add d2_addI de_int (de_var 1)) (de_callB call_len dc_len rfl Z.f_len rfl (da_cons (de_var 6) da_nil))) da_nil))) (blkOk_by (N := ["_law_purse_here", "_law_many", "_law_letters", "_law_kept", "_law_stem", "_law_k", "_law_found", "_law_first", "_law_at", "_law_word"]) (sc := d_law_names.scope) (own := [("_law_k", 5)]) (by decide +kernel)) (by decide) (fun _ _ _ _ _ => (dg_name (i := 5) sc.nd)) (fun _ _ _ _ _ => (de_bin op_add_str d2_catS (de_ix ix_seq d2_ix (de_var 2) (de_bin op_mod d2_modI (de_bin op_add d2_addI (de_var 7) (de_var 5)) de_int)) (de_slice (de_var 4) (do_some de_int) (do_some de_int))))))))))) (dss_cons (ds_asg (de_tup (da_cons (de_call (F_take Z) (hr.mono (by omega)) (da_cons (de_var 0) (da_cons de_int da_nil))) (da_cons (de_call (F_take Z) (hr.mono (by omega)) (da_cons (de_var 0) (da_cons de_int da_nil))) da_nil))) (dg_tup rfl (dgs_cons (i := 8) sc.nd (dgs_cons (i := 7) sc.nd dgs_nil)))) (dss_cons (ds_set (i := 4) sc.nd (de_slice (de_var 4) do_none (do_some (de_call (F_take Z) (hr.mono (by omega)) (da_cons (de_var 0) (da_cons de_int da_nil)))))) (dss_one (ds_setLc (i := 6) rfl sc.nd (di_range1 rfl Z.f_range (da_cons (de_var 1) da_nil)) (blkOk_by (N := ["_law_purse_here", "_law_many", "_law_letters", "_law_kept", "_law_stem", "_law_k", "_law_found", "_law_first", "_law_at", "_law_word"]) (sc := d_law_names.scope) (own := [("_law_k", 5)]) (by decide +kernel)) (by decide) (fun _ _ _ _ _ => (dg_name (i := 5) sc.nd)) (fun _ _ _ _ _ => (de_bin op_add_str d2_catS (de_bin op_add_str d2_catS (de_slice (de_var 4) do_none (do_some (de_var 8))) (de_ix ix_seq d2_ix (de_var 2) (de_bin op_mod d2_modI (de_bin op_add d2_addI (de_var 7) (de_bin op_mul d2_mulI de_int (de_var 5))) de_int))) (de_slice (de_var 4) (do_some (de_var 8)) do_none))) rfl))))) (dss_one (ds_ret (DL.de (dl_lc rfl sc.nd (di_list (de_var 6)) (blkOk_by (N := ["_law_purse_here", "_law_many", "_law_letters", "_law_kept", "_law_stem", "_law_k", "_law_found", "_law_first", "_law_at", "_law_word"]) (sc := d_law_names.scope) (own := [("_law_word", 9)]) (by decide +kernel)) (by decide) (fun _ _ _ _ _ => (dg_name (i := 9) sc.nd)) (fun _ _ _ _ _ => (de_if (dt_cmp op_in_seq (d2_inT false) (de_var 9) (de_var 3) rfl) (de_bin op_add_str d2_catS de_str (de_var 9)) (de_var 9)))))))))))) ?hg
  case hl =>
    rintro ds π Q ⟨a, n, e, _⟩
    rw [e]; rfl
  case hm =>
    rintro ds π Q Q' q ⟨a, n, e, h2, h3, h4⟩
    exact ⟨a, n, e, h2, h3, fun N π' g1 g2 => q _ _ (h4 N π' g1 g2)⟩
  rintro ds π Q ⟨a, n, e, hp, hc, q⟩
  subst e
  have fx := hp.fix
  have done : ∀ ws : List (List Nat), ws.length = 10 → (ws.map fq).Nodup → (∀ w ∈ ws, okName (tx (fq w))) → ∀ π', PuOk (n + 20) a π' → Q (.lst (ws.map fun w => .str (tx (fq w)))) π' := fun ws h1 h2 h3 π' h4 => by
    obtain ⟨N, hN, e⟩ := nm_of h1 h2 h3
    have := q N π' hN h4
    unfold nmD at this
    rw [e, List.map_map] at this
    exact this
  walk_at "kpm"
  refine ⟨by decide, by decide, ?_⟩
  refine lcD_inv (I := fun ds acc π' => ∃ cs : List Nat, acc = cs.map (fun c => D.str (tx [c])) ∧ (∀ c ∈ cs, c ∈ lets) ∧ cs.length + ds.length = 7 ∧ PuOk (n + cs.length) a π') ?_ ?_ ⟨[], rfl, fun _ h => (nomatch h), by simp [rngD], hp⟩
  · rintro acc π1 ⟨s, rfl, hs, hl, hp1⟩
    simp only [List.length_nil, Nat.add_zero] at hl
    rw [hl] at hp1
    refine ⟨s.map fun c => tx [c], by rw [List.map_map]; rfl, ?_, ?_⟩
    · rw [List.length_map, hl, List.map_map]
      have : (s.map ((fun x : Str => x.length) ∘ fun c => tx [c])) = s.map fun _ => 1 := List.map_congr_left fun c _ => by simp
      rw [this]
      have e2 : ∀ l : List Nat, (l.map fun _ => 1).sum = l.length := fun l => by induction l with | nil => rfl | cons x l ih => simp [ih]; omega
      rw [e2, hl]; decide +kernel
    rw [join_signs]
    walk_at "kpm"
    refine x_take hp1 (by omega) ⟨by decide, by decide⟩ fun r π2 r0 r1 hp2 => ?_
    walk_at "kpm"
    by_cases h0 : r = 0
    · refine x_if_t (decide_eq_true h0) ?_
      obtain ⟨c0, s', rfl⟩ : ∃ c0 s', s = c0 :: s' := by
        cases s with
        | nil => cases hl
        | cons c0 s' => exact ⟨c0, s', rfl⟩
      have hc0 := hs c0 List.mem_cons_self
      have hc1 := lets_mem.mp hc0
      walk_at "kpm"
      refine ⟨by decide, by decide, ?_⟩
      have e7 : rngD 0 (if (10 : Int) < 7 then (10 : Int) else 7).toNat = (List.range 7).map fun i : Nat => D.int (0 + (i : Nat)) := rfl
      rw [e7]
      refine lcD_map (h := fun i : Nat => .str (tx ((c0 :: s').take (1 + i)))) (fun i hi K hK => ?_) (by simp) ?_
      · walk_at "kpm"
        refine x_slS (by rw [tx_len, hl]; decide) ?_
        rw [show (1 + (0 + (i : Int))) = ((1 + i : Nat) : Int) by omega, cutS_to]
        exact hK
      · walk_at "kpm"
        refine x_ixS (c := c0) (by rw [tx_len, hl]; decide) (by rw [tx_list]; exact atI_nat (c0 :: s') 0) ?_
        obtain ⟨rest, hrest⟩ := lets_index hc0
        refine ⟨tx [c0], c0 - 97, rest, rfl, by rw [lets_eq]; exact hrest, ?_⟩
        walk_at "kpm"
        simp only [List.length_map, List.length_range]
        refine ⟨⟨by decide, by decide, by decide, by decide⟩, ?_⟩
        have e3 : rngD 1 ((1 : Int) + 10 - ((7 : Nat) : Int) - 1).toNat = (List.range 3).map fun i : Nat => D.int (1 + (i : Nat)) := rfl
        rw [e3]
        refine lcD_map (h := fun k : Nat => .str (tx ((97 + (c0 - 97 + (1 + k)) % 26) :: ((c0 :: s').drop 1).take 2))) (fun k hk K hK => ?_) (by simp) ?_
        · walk_at "kpm"
          refine x_I (by show (0 : Int) < 26; decide) ?_
          have en : ((((c0 - 97 : Nat) : Int) + (1 + (k : Int))) % 26).toNat = (c0 - 97 + (1 + k)) % 26 := by omega
          refine x_ixS (c := 97 + (c0 - 97 + (1 + k)) % 26) (by decide +kernel) (by rw [lets_eq, tx_list, lets_at (by omega) (by omega), en]) ?_
          walk_at "kpm"
          refine x_slS (by rw [tx_len, hl]; decide) ?_
          rw [cutS13 _ (by rw [hl]; decide), tx_one]
          refine x_catS (by rw [tx_len, tx_len, List.length_singleton, List.length_take]; omega) ?_
          rw [tx_app]
          exact hK
        · refine x_catL (by simp only [List.length_map, List.length_range, List.length_append, List.length_nil]; decide) ?_
          have ew : (List.range 7).map (fun i : Nat => D.str (tx ((c0 :: s').take (1 + i)))) ++ ([] ++ (List.range 3).map fun k : Nat => D.str (tx ((97 + (c0 - 97 + (1 + k)) % 26) :: ((c0 :: s').drop 1).take 2))) = (ws1 (c0 :: s') (c0 - 97)).map fun w => .str (tx w) := by
            rw [List.nil_append, ws1, List.map_append, List.map_map]
            rfl
          rw [ew]
          obtain ⟨g1, g2⟩ := ws1_good hl hs (c0 := c0) rfl
          have gl : (ws1 (c0 :: s') (c0 - 97)).length = 10 := by simp [ws1]
          have gw : ∀ w ∈ ws1 (c0 :: s') (c0 - 97), w.length ≤ 7 := fun w hw => by
            unfold ws1 at hw
            rcases List.mem_append.mp hw with hw | hw
            · obtain ⟨i, hi, rfl⟩ := List.mem_map.mp hw
              have := List.mem_range.mp hi
              rw [List.length_take]; omega
            · obtain ⟨i, hi, rfl⟩ := List.mem_map.mp hw
              rw [List.length_cons, List.length_take]; omega
          clear ew
          generalize ws1 (c0 :: s') (c0 - 97) = ws at g1 g2 gl gw ⊢
          walk_at "kpm"
          refine names_fin gl gw ?_
          show Q _ (fixP π π2)
          rw [fx]
          exact done _ gl g1 g2 π2 (hp2.up (by omega))
    · refine x_if_f (decide_eq_false h0) ?_
      walk_at "kpm"
      refine x_take hp2 (by omega) ⟨by decide, by decide⟩ fun i π3 i0 i1 hp3 => ?_
      walk_at "kpm"
      refine x_take hp3 (by omega) ⟨by decide, by decide⟩ fun f π4 f0 f1 hp4 => ?_
      walk_at "kpm"
      refine x_take hp4 (by omega) ⟨by decide, by decide⟩ fun t π5 t0 t1 hp5 => ?_
      walk_at "kpm"
      obtain ⟨t, rfl⟩ := Int.eq_ofNat_of_zero_le t0
      obtain ⟨i, rfl⟩ := Int.eq_ofNat_of_zero_le i0
      obtain ⟨f, rfl⟩ := Int.eq_ofNat_of_zero_le f0
      refine x_slS (by rw [tx_len, hl]; decide) ?_
      rw [cutS_to]
      have hs2 : ∀ c ∈ s.take t, c ∈ lets := fun c hc => hs c (List.mem_of_mem_take hc)
      have l2 : (s.take t).length ≤ 6 := by rw [List.length_take]; omega
      generalize s.take t = s2 at hs2 l2 ⊢
      walk_at "kpm"
      refine ⟨by decide, by decide, ?_⟩
      have e10 : rngD 0 ((10 : Int)).toNat = (List.range 10).map fun k : Nat => D.int (0 + (k : Nat)) := rfl
      rw [e10]
      refine lcD_map (h := fun k : Nat => .str (tx (s2.take i ++ (97 + (f + 7 * k) % 26) :: s2.drop i))) (fun k hk K hK => ?_) (by simp) ?_
      · walk_at "kpm"
        refine x_slS (by rw [tx_len]; omega) ?_
        rw [cutS_to]
        walk_at "kpm"
        refine x_I (Or.inl ⟨by decide, by decide⟩) ?_
        walk_at "kpm"
        refine x_I (by show (0 : Int) < 26; decide) ?_
        have en : (((f : Int) + 7 * (0 + (k : Int))) % 26).toNat = (f + 7 * k) % 26 := by omega
        refine x_ixS (c := 97 + (f + 7 * k) % 26) (by decide +kernel) (by rw [lets_eq, tx_list, lets_at (by omega) (by omega), en]) ?_
        rw [tx_one]
        refine x_catS (by rw [tx_len, tx_len, List.length_singleton, List.length_take]; omega) ?_
        rw [tx_app]
        walk_at "kpm"
        refine x_slS (by rw [tx_len]; omega) ?_
        rw [cutS_from]
        refine x_catS (by rw [tx_len, tx_len, List.length_append, List.length_singleton, List.length_take, List.length_drop]; omega) ?_
        rw [tx_app, List.append_assoc]
        exact hK
      · have ew : ([] ++ (List.range 10).map fun k : Nat => D.str (tx (s2.take i ++ (97 + (f + 7 * k) % 26) :: s2.drop i))) = (ws2 (s2.take i) (s2.drop i) f).map fun w => .str (tx w) := by
          rw [List.nil_append, ws2, List.map_map]
          rfl
        rw [ew]
        have hi : (s2.take i).length + (s2.drop i).length ≤ 6 := by rw [List.length_take, List.length_drop]; omega
        obtain ⟨g1, g2⟩ := ws2_good (f := f) hi (fun c hc => hs2 c (List.mem_of_mem_take hc)) (fun c hc => hs2 c (List.mem_of_mem_drop hc))
        have gl : (ws2 (s2.take i) (s2.drop i) f).length = 10 := by simp [ws2]
        have gw : ∀ w ∈ ws2 (s2.take i) (s2.drop i) f, w.length ≤ 7 := fun w hw => by
          obtain ⟨k, _, rfl⟩ := List.mem_map.mp hw
          simp only [List.length_append, List.length_cons]; omega
        clear ew
        generalize ws2 (s2.take i) (s2.drop i) f = ws at g1 g2 gl gw ⊢
        walk_at "kpm"
        refine names_fin gl gw ?_
        show Q _ (fixP π π5)
        rw [fx]
        exact done _ gl g1 g2 π5 (hp5.up (by omega))
  · rintro d r acc π1 B ⟨cs, rfl, hs, hl, hp1⟩ hB
    simp only [List.length_cons] at hl
    refine ⟨by rw [List.length_map]; omega, ?_⟩
    walk_at "kpm"
    refine x_take hp1 (by omega) ⟨by decide, by decide⟩ fun i π2 i0 i1 hp2 => ?_
    refine x_ixS (c := 97 + i.toNat) (by decide +kernel) (by rw [lets_eq, tx_list]; exact lets_at i0 i1) ?_
    exact hB _ _ ⟨cs ++ [97 + i.toNat], by simp [tx], fun c hc => by
      rcases List.mem_append.mp hc with hc | hc
      · exact hs c hc
      · rw [List.mem_singleton] at hc; rw [hc]; exact lets_mem.mpr (by omega), by simp; omega, by rw [List.length_append]; exact hp2⟩
end
end Kp
set_option maxRecDepth 100000
set_option maxHeartbeats 4000000
/-! Dl16: calls of a family of promises, one a world; the law's loop -/
namespace Kp
open PySem PySem.Spec L2
/-- there are good names -/
theorem nm_some : ∃ N : Nm, N.Ok := by
  have h := nm_of (ws := (List.range 10).map fun i => [97 + i]) rfl (by decide) fun w hw => by
    obtain ⟨i, hi, rfl⟩ := List.mem_map.mp hw
    have := List.mem_range.mp hi
    refine fq_ok (by simp) (by simp) fun c hc => ?_
    rw [List.mem_singleton] at hc
    rw [hc]; exact lets_mem.mpr (by omega)
  obtain ⟨N, hN, _⟩ := h
  exact ⟨N, hN⟩
/-- a call of a def that keeps a promise for each world's names -/
def dOwnF (sp : Nm → SpecD) (dds : List D) (f : DTa) : DTe := fun ρ π Q => f ρ π fun ds π1 => ∃ N : Nm, N.Ok ∧ sp N (ds ++ dds) π1 Q
theorem de_callF {X : Cx} {C : Addr} {e : Expr} {es : List Expr} {fa : DTa} {x : Str} {p pos : Pos} {k : Nat} {dds : List D} {sp : Nm → SpecD} (G : ∀ N : Nm, N.Ok → Fn X.prog X.w X.K X.mg X.base C x k dds (sp N)) (hr : Room k X.A) (ha : DA X C (e :: es) fa) (hg : Gl X x := by rfl) (hdb : (x == ("__debug__" : Str)) = false := by decide)
    (he : starEach (e :: es) X.env = (false, eval e X.env) :: starEach es X.env := by rfl) (hpl : (backTo pos (starEach es X.env)).any (·.1) = false := by rfl) : DE X C (.Call (.Name x p) (e :: es) [] pos) (dOwnF sp dds fa) where
  pe := fun F => by
    obtain ⟨N0, hN0⟩ := nm_some
    obtain ⟨f, fd0, ps0, ds0, dvs0, G0, hm, hk, _⟩ := (G N0 hN0).ex
    refine ⟨fun pins s σ H Q I ⟨ρ, π, O, R, q⟩ => ?_⟩
    refine wpAny_Call_Name_kw (ld_glob I hg hm ?_ hdb)
    refine PySem.W.callWith_K (h₀ := X.base) I.ok.mod.kin hk (thn ((ha.pa F).run pos pins s σ H _ I ⟨ρ, π, O, R, ha.mono _ _ _ _ (fun ds π1 q1 vs H1 s1 r1 => (⟨π1, ds, s1, r1, q1⟩ : ∃ π1 ds, Stp π π1 H H1 ∧ Reps X.K C (hide O H1) vs ds ∧ ∃ N : Nm, N.Ok ∧ sp N (ds ++ dds) π1 fun d π' => ∀ v H', Stp π π' H H' → Rep X.K C (hide O H') v d → Q v H')) q⟩) fun us s1 ⟨vs, H1, I1, r, π1, ds, st, rs, N, hN, q1⟩ => ⟨I1.kIn, ?_⟩) he hpl
    obtain ⟨f', fd, ps, dls, dvs, G1, hm1, hk1, hb, hd, hdd⟩ := (G N hN).ex
    have ef : f' = f := by rw [hm] at hm1; cases hm1; rfl
    subst ef
    refine run_fn G1 hr hb hd pass0 I1 r ?_
    have R1 := R.step st
    refine ⟨O, π1, ds ++ dds, R1.dom, fun a l h => let ⟨h1, h2, _⟩ := R1.pu a l h; ⟨h1, h2⟩, rs.append (hdd _), (G N hN).mono _ _ _ _ (fun d π2 q2 v H2 s2 r2 => ?_) q1⟩
    exact q2 v H2 (st.trans s2) r2
  mono := fun ρ π Q Q' q h => ha.mono _ _ _ _ (fun ds π1 ⟨N, hN, h1⟩ => ⟨N, hN, (G N hN).mono _ _ _ _ q h1⟩) h
section
variable {A : DEnds} {ρ : DEnv} {π : Pu} {g : DTs} {T : Tgt} {fa : DTa} {Q : D → Pu → Prop}
theorem x_ownN {sp : Nm → SpecD} {dds : List D} (q : fa ρ π fun ds π1 => ∃ N : Nm, N.Ok ∧ sp N (ds ++ dds) π1 Q) : dOwnF sp dds fa ρ π Q := q
theorem x_forN {wi : DTa} (e : π = none) (q : wi ρ none fun ds π1 => π1 = none ∧ foN T g A ds ρ) : dForN wi T g A ρ π := ⟨e, q⟩
theorem foN_inv (I : List D → DEnv → Prop) (h0 : ∀ ρ, I [] ρ → A.nx ρ none) (hs : ∀ d r ρ (B : DEnv → Prop), I (d :: r) ρ → (∀ ρ', I r ρ' → B ρ') → stD T d ρ fun ρ' => g { nx := fun ρ2 _ => B ρ2, ct := fun ρ2 _ => B ρ2, bk := fun _ _ => False, rt := A.rt } ρ' none) : ∀ {ds : List D} {ρ : DEnv}, I ds ρ → foN T g A ds ρ
  | [], ρ, h => h0 ρ h
  | d :: r, ρ, h => hs d r ρ (fun ρ' => foN T g A r ρ') h fun ρ' h' => foN_inv I h0 hs h'
theorem x_mkP {i : Nat} (e : π = none) (q : fa ρ none fun ds π1 => π1 = none ∧ ∃ l : List Int, ds = l.map D.int ∧ ∀ p, A.nx (ρ.set i (.pu (.adr p))) (some (p, l))) : dMkP fa i A ρ π := by subst e; exact ⟨rfl, q⟩
theorem x_mkG (q : fa ρ π fun ds π1 => ∃ a : List (Str × D), ds = [.lst (a.map (·.2))] ∧ ((∀ q ∈ a, RowOk q.1 q.2) ∧ (a.map (·.1)).Nodup ∧ a.length ≤ 24) ∧ Q (.gnd (a.map (·.1)) (a.map (·.2))) π1) : dMkG fa ρ π Q := q
end
/-! ### the world's rows are rows -/
def wZip (N : Nm) : List (Str × D) := [(N.num, thD N.num [] [[], [tTh N.num]]), (N.bit, thD N.bit [] [[], []]), (N.none, thD N.none [] []), (N.both, thD N.both [tKd 0, tKd 0] [[.var 1, .var 1]]), (N.either, thD N.either [tKd 0, tKd 0] [[.var 1], [.var 0]]),
  (N.line, thD N.line [tKd 0] [[], [.var 0, tAp (tTh N.line) (.var 1)]]), (N.tree, thD N.tree [] [[], [tAl (tTh N.num) (tTh N.tree)]]), (N.two, meD N.two (tTh N.num) (numT N 2)), (N.flip, meD N.flip (tAl (tTh N.bit) (tTh N.bit)) (flipT N)), (N.held, hoD N.held (tAl (tTh N.num) (tTh N.num)))]
theorem wZip_rows (N : Nm) : (wZip N).map (·.2) = wRows N := rfl
theorem wZip_names (N : Nm) : (wZip N).map (·.1) = N.all := rfl
theorem gd_k : gdT (tKd 0) := ⟨⟨by decide, by decide⟩, by show 1 ≤ 58; decide⟩
theorem gd_t {s : Str} (h : okName s) : gdT (tTh s) := ⟨h, by show 1 ≤ 58; decide⟩
theorem gd_v {n : Int} (h : 0 ≤ n) : gdT (.var n) := ⟨h, by show 1 ≤ 58; decide⟩
theorem gd_b {b : Bn} {x y : T} (h1 : x.ok) (h2 : y.ok) (h3 : x.dp ≤ 57) (h4 : y.dp ≤ 57) : gdT (.bin b x y) := ⟨⟨h1, h2⟩, by simp only [T.dp]; omega⟩
theorem wZip_ok {N : Nm} (h : N.Ok) : (∀ q ∈ wZip N, RowOk q.1 q.2) ∧ ((wZip N).map (·.1)).Nodup ∧ (wZip N).length ≤ 24 := by
  refine ⟨?_, by rw [wZip_names]; exact h.nd, by show 10 ≤ 24; decide⟩
  have hk : ∀ s ∈ N.all, okName s := h.ok
  simp only [Nm.all, List.mem_cons, List.not_mem_nil, or_false, forall_eq_or_imp, forall_eq] at hk
  obtain ⟨h1, h2, h3, h4, h5, h6, h7, h8, h9, h10⟩ := hk
  have nb := bd_numT h 2
  have nil : ∀ t ∈ ([] : List T), gdT t := fun _ h => nomatch h
  have ones : ∀ {x : T}, gdT x → ∀ t ∈ [x], gdT t := fun h t ht => by rw [List.mem_singleton] at ht; rw [ht]; exact h
  have twos : ∀ {x y : T}, gdT x → gdT y → ∀ t ∈ [x, y], gdT t := fun h g t ht => by
    rcases List.mem_cons.mp ht with e | ht
    · rw [e]; exact h
    · rw [List.mem_singleton] at ht; rw [ht]; exact g
  have e0 : ∀ m ∈ ([] : List (List T)), m.length ≤ 4 ∧ ∀ t ∈ m, gdT t := fun _ h => nomatch h
  have e1 : ∀ {a : List T}, (a.length ≤ 4 ∧ ∀ t ∈ a, gdT t) → ∀ m ∈ [a], m.length ≤ 4 ∧ ∀ t ∈ m, gdT t := fun h m hm => by rw [List.mem_singleton] at hm; rw [hm]; exact h
  have e2 : ∀ {a b : List T}, (a.length ≤ 4 ∧ ∀ t ∈ a, gdT t) → (b.length ≤ 4 ∧ ∀ t ∈ b, gdT t) → ∀ m ∈ [a, b], m.length ≤ 4 ∧ ∀ t ∈ m, gdT t := fun h g m hm => by
    rcases List.mem_cons.mp hm with e | hm
    · rw [e]; exact h
    · rw [List.mem_singleton] at hm; rw [hm]; exact g
  have z : ([] : List T).length ≤ 4 ∧ ∀ t ∈ ([] : List T), gdT t := ⟨Nat.zero_le _, nil⟩
  have fl : gdT (flipT N) := ⟨by simp [flipT, h2], by show 7 ≤ 58; decide⟩
  intro q hq
  simp only [wZip, List.mem_cons, List.not_mem_nil, or_false] at hq
  rcases hq with rfl | rfl | rfl | rfl | rfl | rfl | rfl | rfl | rfl | rfl
  · exact .thing h1 ⟨by decide, nil⟩ ⟨(by show 2 ≤ 5; decide), e2 z ⟨(by show 1 ≤ 4; decide), ones (gd_t h1)⟩⟩
  · exact .thing h2 ⟨by decide, nil⟩ ⟨(by show 2 ≤ 5; decide), e2 z z⟩
  · exact .thing h3 ⟨by decide, nil⟩ ⟨(by show 0 ≤ 5; decide), e0⟩
  · exact .thing h4 ⟨(by show 2 ≤ 3; decide), twos gd_k gd_k⟩ ⟨(by show 1 ≤ 5; decide), e1 ⟨(by show 2 ≤ 4; decide), twos (gd_v (by decide)) (gd_v (by decide))⟩⟩
  · exact .thing h5 ⟨(by show 2 ≤ 3; decide), twos gd_k gd_k⟩ ⟨(by show 2 ≤ 5; decide), e2 ⟨(by show 1 ≤ 4; decide), ones (gd_v (by decide))⟩ ⟨(by show 1 ≤ 4; decide), ones (gd_v (by decide))⟩⟩
  · exact .thing h6 ⟨(by show 1 ≤ 3; decide), ones gd_k⟩ ⟨(by show 2 ≤ 5; decide), e2 z ⟨(by show 2 ≤ 4; decide), twos (gd_v (by decide)) (gd_b h6 (by show (0 : Int) ≤ 1; decide) (by show 1 ≤ 57; decide) (by show 1 ≤ 57; decide))⟩⟩
  · exact .thing h7 ⟨by decide, nil⟩ ⟨(by show 2 ≤ 5; decide), e2 z ⟨(by show 1 ≤ 4; decide), ones (gd_b h1 h7 (by show 1 ≤ 57; decide) (by show 1 ≤ 57; decide))⟩⟩
  · exact .mean h8 (gd_t h1) ⟨nb.ok, by have := nb.dp; omega⟩
  · exact .mean h9 (gd_b h2 h2 (by show 1 ≤ 57; decide) (by show 1 ≤ 57; decide)) fl
  · exact .hold h10 (gd_b h1 h1 (by show 1 ≤ 57; decide) (by show 1 ≤ 57; decide))
end Kp
set_option maxRecDepth 100000
set_option maxHeartbeats 8000000
/-! A32: the law -/
namespace Kp
open PySem PySem.Spec L2
section
variable {P : Program} {w : World} {K : PySem.W.Frag} {mg : Str → Option Value} {base : Heap}
theorem sc_law : FnScope ["_law_script", "_law_k", "_law_purse_here", "_law_names_here", "_law_ground", "_law_room", "_law_turn", "_law_pair_here", "_law_manner"] ["_law_script"] d_law.scope := ⟨rfl, rfl, rfl, by decide +kernel, rfl, by decide +kernel, by decide +kernel⟩
theorem F_law (Z : Tx P w K mg base) {f : Addr} {fd : FuncData} (F : FunD K d_law.name d_law.qual d_law.params d_law.body d_law.scope [] [] f fd) : FnOk P w K mg base CX0 186 f fd ["_law_script"] (SpD K (GC K) sp_law) := by
  refine fn_d (k := 185) F sc_law ?hl (by decide) (fun cdv A outer s H E hr => by
    have sc := sc_law
    exact (dss_cons (ds_forN (di_range1 rfl Z.f_range (da_cons (de_callB (call_max2 rfl) dc_max rfl Z.f_max rfl (da_cons de_int (da_cons (de_callB (call_min2 rfl) dc_min rfl Z.f_min rfl (da_cons de_int (da_cons (de_callB call_len dc_len rfl Z.f_len rfl (da_cons (de_var 0) da_nil)) da_nil))) da_nil))) da_nil)) (dg_name (i := 1) sc.nd) (dss_cons (ds_mkP (i := 2) sc.nd (de_callL (F_law_purse Z) (hr.mono (by omega)) (da_cons (de_call (F_law_cell Z) (hr.mono (by omega)) (da_cons (de_var 0) (da_cons (de_var 1) da_nil))) da_nil))) (dss_cons (ds_set (i := 3) sc.nd (de_call (F_names Z) (hr.mono (by omega)) (da_cons (de_var 2) (da_cons de_int da_nil)))) (dss_cons (ds_set (i := 4) sc.nd (de_mkG Z rfl rfl rfl rfl rfl (hr.mono (by omega)) rfl (da_cons (de_callF (fun N hN => F_world Z hN) (hr.mono (by omega)) (da_cons (de_var 3) da_nil)) da_nil))) (dss_cons (ds_setLc (i := 5) rfl sc.nd (di_range1 rfl Z.f_range (da_cons (de_call (F_take Z) (hr.mono (by omega)) (da_cons (de_var 2) (da_cons de_int da_nil))) da_nil)) (blkOk_by (N := ["_law_script", "_law_k", "_law_purse_here", "_law_names_here", "_law_ground", "_law_room", "_law_turn", "_law_pair_here", "_law_manner"]) (sc := d_law.scope) (own := [("_law_turn", 6)]) (by decide +kernel)) (by decide) (fun _ _ _ _ _ => (dg_name (i := 6) sc.nd)) (fun _ _ _ _ _ => (de_callF (fun N hN => F_saying Z hN 3) (hr.mono (by omega)) (da_cons (de_var 2) (da_cons (de_var 3) (da_cons de_int da_nil))))) rfl) (dss_cons (ds_set (i := 7) sc.nd (de_callF (fun N hN => F_pair Z hN 5) (hr.mono (by omega)) (da_cons (de_var 2) (da_cons (de_var 3) (da_cons (de_var 5) (da_cons (de_callF (fun N hN => F_saying Z hN 3) (hr.mono (by omega)) (da_cons (de_var 2) (da_cons (de_var 3) (da_cons de_int da_nil)))) (da_cons de_int da_nil))))))) (dss_cons (ds_for (di_range1 rfl Z.f_range (da_cons de_int da_nil)) (dg_name (i := 8) sc.nd) (dss_one (ds_if (dt_cmp (op_neD hr.units) d2_neD (de_callF (fun N hN => F_end Z hN) (hr.mono (by omega)) (da_cons (de_var 2) (da_cons (de_var 4) (da_cons (de_ix ix_seq d2_ix (de_var 7) de_int) (da_cons (de_var 8) da_nil))))) (de_ix ix_seq d2_ix (de_var 7) de_int) (nomark _)) (dss_one (ds_ret de_bl)) dss_nil))) (dss_one (ds_if (DW.dt (dw_or (dt_cmp (op_neD hr.units) d2_neD (de_callF (fun N hN => F_worked Z hN) (hr.mono (by omega)) (da_cons (de_var 4) (da_cons (de_ix ix_seq d2_ix (de_var 7) de_int) da_nil))) (de_ix ix_seq d2_ix (de_var 7) de_int) (nomark _)) (dw_or1 (dt_cmp (op_neD hr.units) d2_neD (de_callF (fun N hN => F_steps Z hN) (hr.mono (by omega)) (da_cons (de_var 4) (da_cons (de_ix ix_seq d2_ix (de_var 7) de_int) da_nil))) (de_lst da_nil) (nomark _))))) (dss_one (ds_ret de_bl)) dss_nil))))))))) (dss_one (ds_ret de_bl)))) ?hg
  case hl =>
    rintro ds π Q ⟨ns, e, _⟩
    rw [e]; rfl
  rintro ds π Q ⟨ns, e, hn, hπ, q⟩
  subst e hπ
  walk_at "kpm"
  refine x_forN rfl ?_
  walk_at "kpm"
  refine x_len rfl hn ?_
  walk_at "kpm"
  generalize hj : (if (if ((ns.length : Nat) : Int) < 6 then ((ns.length : Nat) : Int) else 6) > 2 then (if ((ns.length : Nat) : Int) < 6 then ((ns.length : Nat) : Int) else 6) else 2) = j
  have hj6 : 0 ≤ j ∧ j ≤ 6 := by
    rw [← hj]
    split <;> split <;> omega
  clear hj
  refine ⟨by omega, by omega, rfl, ?_⟩
  refine foN_inv (I := fun ds ρ => (∀ d ∈ ds, ∃ i : Nat, i ≤ 6 ∧ d = .int i) ∧ ∃ z1 z2 z3 z4 z5 z6 z7 z8 : Sl, ρ = [.pu (.inp ns), z1, z2, z3, z4, z5, z6, z7, z8]) ?_ ?_ ⟨fun d hd => ?_, _, _, _, _, _, _, _, _, rfl⟩
  · rintro ρ ⟨_, z1, z2, z3, z4, z5, z6, z7, z8, rfl⟩
    walk_at "kpm"
    exact q _
  · rintro d r ρ B ⟨hd, z1, z2, z3, z4, z5, z6, z7, z8, rfl⟩ hB
    obtain ⟨i, hi, rfl⟩ := hd d List.mem_cons_self
    have hd' : ∀ d ∈ r, ∃ i : Nat, i ≤ 6 ∧ d = .int i := fun d h => hd d (List.mem_cons_of_mem _ h)
    walk_at "kpm"
    refine x_mkP rfl ?_
    walk_at "kpm"
    obtain ⟨c, hcell⟩ : ∃ c : Int, c = if ((i : Nat) : Int) < (ns.length : Nat) then ns.getD i 0 else 6113 * (i : Nat) + 19 := ⟨_, rfl⟩
    refine x_f1 (ns, i, c) rfl ⟨hn, by simp only; omega, hcell⟩ ?_
    walk_at "kpm"
    refine x_fL c rfl trivial ?_
    refine ⟨rfl, pu0 c, rfl, fun p => ?_⟩
    have hp0 := pu0_ok c p
    generalize (some (p, pu0 c) : Pu) = π0 at hp0 ⊢
    walk_at "kpm"
    refine ⟨p, 0, rfl, hp0, by decide, fun N π1 hN hp1 => ?_⟩
    walk_at "kpm"
    refine ⟨N, hN, x_f1 () rfl trivial ?_⟩
    walk_at "kpm"
    refine ⟨wZip N, rfl, wZip_ok hN, ?_⟩
    rw [wZip_names, wZip_rows]
    walk_at "kpm"
    refine x_take hp1 (by decide) ⟨by decide, by decide⟩ fun jr π2 jr0 jr1 hp2 => ?_
    walk_at "kpm"
    refine ⟨by omega, by omega, ?_⟩
    refine lcD_inv (I := fun ds acc π' => ∃ rm : List T, acc = rm.map toD ∧ (∀ u ∈ rm, u.ok ∧ u.dp ≤ 8) ∧ rm.length + ds.length ≤ 3 ∧ PuOk (21 + 3 * rm.length) p π') ?_ ?_ ⟨[], rfl, fun _ h => (nomatch h), by simp [rngD]; omega, hp2⟩
    · rintro acc π3 ⟨rm, rfl, hrg, hrl, hp3⟩
      simp only [List.length_nil, Nat.add_zero] at hrl
      walk_at "kpm"
      refine x_ownN ?_
      walk_at "kpm"
      refine x_ownN ?_
      walk_at "kpm"
      refine ⟨N, hN, x_saying (l := 2) rfl ⟨by decide, by decide⟩ hp3 (by show _ + 7 ≤ _; omega) fun S π4 hS hv hp4 => ?_⟩
      walk_at "kpm"
      refine ⟨N, hN, x_pair (rm := rm) (l := 2) (k := 2) (S := S) rfl ⟨hS, by decide, by decide, .inr rfl, by decide, by omega, hrg, T.vle_up (by decide) hv⟩ hp4 (by show _ + 7 + 930 ≤ _; omega) fun r0 t π5 hpk _ hp5 => ?_⟩
      have ev := hpk.ev (by decide)
      obtain ⟨rnf, rbd⟩ := ev.end_nf
      have hp6 : PuOk 1000 p π5 := hp5.up (by show _ + 7 + 930 ≤ _; omega)
      walk_at "kpm"
      refine ⟨by decide, by decide, ?_⟩
      have rdat := T.dat rbd.ok
      have rdep : dep (toD r0) ≤ 64 := by rw [T.depD]; have := rbd.dp; omega
      obtain ⟨sps, way, hway⟩ := ev_way (by decide) (by decide) ev
      refine foD_inv (I := fun ds ρ π' => (∀ d ∈ ds, ∃ c : Nat, c ≤ 3 ∧ d = .int c) ∧ ds.length ≤ 4 ∧ PuOk (1000 + 400 * (4 - ds.length)) p π' ∧ ∃ z : Sl, ρ = [.pu (.inp ns), .pu (.int (i : Nat)), .pu (.adr p), .pu (nmD N), .pu (.gnd N.all (wRows N)), .pu (.lst (rm.map toD)), z6, .pu (.tup [toD r0, toD t]), z]) ?_ ?_ ⟨fun d hd => ?_, by decide, hp6.up (by omega), _, rfl⟩
      · rintro ρ π6 ⟨_, _, hp7, z, rfl⟩
        walk_at "kpm"
        refine x_ownN ?_
        walk_at "kpm"
        refine ⟨N, hN, x_f1 (t, sps, r0) rfl ⟨way, by simp only; omega⟩ ?_⟩
        walk_at "kpm"
        refine x_eqD rdat rdat rdep rdep ?_
        rw [eqd_toD, decide_eq_true rfl]
        walk_at "kpm"
        refine x_ownN ?_
        walk_at "kpm"
        refine ⟨N, hN, x_f1 r0 rfl ⟨rbd.ok, by have := rbd.dp; omega, rbd.ea, by have := rbd.sz; omega⟩ ?_⟩
        walk_at "kpm"
        have e0 : stepsT N r0 = [] := rnf
        rw [e0]
        refine x_eqD rfl rfl (by decide) (by decide) ?_
        rw [eqd_map_nil]
        walk_at "kpm"
        exact hB _ ⟨hd', _, _, _, _, _, _, _, _, rfl⟩
      · rintro d ds ρ π6 B2 ⟨hd2, hl2, hp7, z, rfl⟩ hB2
        obtain ⟨c2, hc2, rfl⟩ := hd2 d List.mem_cons_self
        simp only [List.length_cons] at hl2 hp7
        walk_at "kpm"
        refine x_ownN ?_
        walk_at "kpm"
        refine ⟨N, hN, p, _, r0, t, c2, rfl, ⟨hc2, ev⟩, hp7, by omega, fun π7 hp8 => ?_⟩
        walk_at "kpm"
        refine x_eqD rdat rdat rdep rdep ?_
        rw [eqd_toD, decide_eq_true rfl]
        walk_at "kpm"
        exact hB2 _ _ ⟨fun d h => hd2 d (List.mem_cons_of_mem _ h), by omega, hp8.up (by omega), _, rfl⟩
      · obtain ⟨i, h1, h2⟩ := rngD_mem hd
        exact ⟨i, by omega, by rw [h2]; simp⟩
    · rintro d ds acc π3 B' ⟨rm, rfl, hrg, hrl, hp3⟩ hB'
      simp only [List.length_cons] at hrl
      refine ⟨by rw [List.length_map]; omega, ?_⟩
      walk_at "kpm"
      refine x_ownN ?_
      walk_at "kpm"
      refine ⟨N, hN, x_saying (l := 1) rfl ⟨by decide, by decide⟩ hp3 (by show _ + 3 ≤ _; omega) fun S π4 hS hv hp4 => ?_⟩
      have sb := hS.bd hN (by decide)
      refine hB' _ _ ⟨rm ++ [S], by simp, fun u hu => ?_, by simp; omega, hp4.up (by simp; show _ + 3 ≤ _; omega)⟩
      rcases List.mem_append.mp hu with hu | hu
      · exact hrg u hu
      · rw [List.mem_singleton] at hu; rw [hu]; exact ⟨sb.ok, by have := sb.dp; omega⟩
  · obtain ⟨i, h1, h2⟩ := rngD_mem hd
    exact ⟨i, by omega, by rw [h2]; simp⟩
end
end Kp
/-! A33: the law holds -/
set_option maxRecDepth 100000 in
set_option maxHeartbeats 8000000 in
theorem PySem.Challenge.cw_kernelpapers_k20_whole_one_end_holds : PySem.Challenge.rw_kernelpapers_k20_whole_one_end.Holds := by
  exact Kp.fin fun _ _ _ _ _ _ _ Z F => Kp.F_law Z F
