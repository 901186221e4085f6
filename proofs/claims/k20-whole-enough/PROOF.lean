import PyProof.Rows.All
import Wide.All
import OpenK.AllK
import Wide.FinOn
import HandS.ForMost
import HandS.Exc
import HandS.Defaults
import HandS.HeadHook1
import HandS.HeadHook2
import PySem.Challenge.RW_finecloud_k20_whole_enough
import KE.KDictKeyed
import KE.KeyNested
import KE.KStar
import HandS.DictTup
import KE.SortData
import KE.DataMinMax
import KE.KDictSum
import KE.KDictCopyH
import KE.KDictOf
import HandS.Walk
import KE.GoesEnum
import HandS.IsInst
import HandS.TupAny
import HandS.More
import HandS.Zip
import HandS.Deep
import KE.KStateDown
import Lean
import HandS.Head0
import HandS.Head1
import HandS.Head2
import HandS.HeadEnd
set_option Elab.async false
set_option linter.all false
set_option maxRecDepth 100000
/-! The text by places, and what the head tells of each name. Printed by gen_top.py. -/
namespace Fc
open PySem PySem.Spec PyProof.Rows L2
def top (i : Nat) : Stmt := PySem.Challenge.pw_finecloud_k20_whole_enough.main.body.getD i (.Pass (Pos.mk 0 0 0 0))
abbrev s_halves_of : Stmt := top 2
abbrev s_is_whole : Stmt := top 9
abbrev s_power : Stmt := top 10
abbrev s_Telling_init : Stmt := inClass (top 12) 0
abbrev s_Telling_is_cell : Stmt := inClass (top 12) 1
abbrev s_Telling_is_needed : Stmt := inClass (top 12) 2
abbrev s_Telling_told : Stmt := inClass (top 12) 3
abbrev s_Telling_both : Stmt := inClass (top 12) 4
abbrev s_Telling_least : Stmt := inClass (top 12) 5
abbrev s_Telling_within : Stmt := inClass (top 12) 6
abbrev s_Telling_ends : Stmt := inClass (top 12) 7
abbrev s_Telling_way : Stmt := inClass (top 12) 8
abbrev s_Telling_way_of : Stmt := inClass (top 12) 9
abbrev s_Telling_cell_way : Stmt := inClass (top 12) 10
abbrev s_fewest_facts : Stmt := top 13
abbrev s_is_enough : Stmt := top 14
abbrev s_place_in : Stmt := top 16
abbrev s_Cloud_init : Stmt := inClass (top 17) 0
abbrev s_Cloud_count : Stmt := inClass (top 17) 5
abbrev s_Space_init : Stmt := inClass (top 21) 0
abbrev s_Space_is_point : Stmt := inClass (top 21) 2
abbrev s_Space_check_point : Stmt := inClass (top 21) 3
abbrev s_Space_woven : Stmt := inClass (top 21) 4
abbrev s_Space_point_of : Stmt := inClass (top 21) 5
abbrev s_Space_size : Stmt := inClass (top 21) 6
abbrev s_Space_is_prefix : Stmt := inClass (top 21) 7
abbrev s_Space_cell : Stmt := inClass (top 21) 8
abbrev s_Box_init : Stmt := inClass (top 22) 0
abbrev s_Box_room : Stmt := inClass (top 22) 2
abbrev s_is_inside : Stmt := top 23
abbrev s_Rest_init : Stmt := inClass (top 25) 0
abbrev s_Knowledge_init : Stmt := inClass (top 26) 0
abbrev s_Knowledge_is_fit : Stmt := inClass (top 26) 2
abbrev s_Knowledge_rests : Stmt := inClass (top 26) 3
abbrev s_Knowledge_next_inside : Stmt := inClass (top 26) 4
abbrev s_Knowledge_points_left : Stmt := inClass (top 26) 5
abbrev s_Knowledge_room : Stmt := inClass (top 26) 6
abbrev s_Knowledge_room_in : Stmt := inClass (top 26) 7
abbrev s_Knowledge_bounds : Stmt := inClass (top 26) 9
abbrev s_Knowledge_known : Stmt := inClass (top 26) 10
abbrev s_law_number : Stmt := top 28
abbrev s_law_take : Stmt := top 29
abbrev s_law_pick : Stmt := top 30
abbrev s_law_tiny : Stmt := top 31
abbrev s_law_all : Stmt := top 32
abbrev s_law_points : Stmt := top 33
abbrev s_law_point : Stmt := top 34
abbrev s_law_box : Stmt := top 35
abbrev s_law_prefixes : Stmt := top 36
abbrev s_law_facts : Stmt := top 37
abbrev s_law_clouds : Stmt := top 38
abbrev s_law_sees : Stmt := top 39
abbrev s_law : Stmt := top 40
/-! ### the head: data -/
def d_halves_of : He.DefD := ⟨("halves_of", none), "halves_of", "halves_of", defArgs s_halves_of, defBody s_halves_of, defScope s_halves_of, [], []⟩
def d_is_whole : He.DefD := ⟨("is_whole", none), "is_whole", "is_whole", defArgs s_is_whole, defBody s_is_whole, defScope s_is_whole, [], []⟩
def d_power : He.DefD := ⟨("power", none), "power", "power", defArgs s_power, defBody s_power, defScope s_power, [], []⟩
def d_Telling_init : He.DefD := ⟨("Telling", some "__init__"), "__init__", "Telling.__init__", defArgs s_Telling_init, defBody s_Telling_init, defScope s_Telling_init, [], []⟩
def d_Telling_is_cell : He.DefD := ⟨("Telling", some "is_cell"), "is_cell", "Telling.is_cell", defArgs s_Telling_is_cell, defBody s_Telling_is_cell, defScope s_Telling_is_cell, [], []⟩
def d_Telling_is_needed : He.DefD := ⟨("Telling", some "is_needed"), "is_needed", "Telling.is_needed", defArgs s_Telling_is_needed, defBody s_Telling_is_needed, defScope s_Telling_is_needed, [], []⟩
def d_Telling_told : He.DefD := ⟨("Telling", some "told"), "told", "Telling.told", defArgs s_Telling_told, defBody s_Telling_told, defScope s_Telling_told, [], []⟩
def d_Telling_both : He.DefD := ⟨("Telling", some "both"), "both", "Telling.both", defArgs s_Telling_both, defBody s_Telling_both, defScope s_Telling_both, [], []⟩
def d_Telling_least : He.DefD := ⟨("Telling", some "least"), "least", "Telling.least", defArgs s_Telling_least, defBody s_Telling_least, defScope s_Telling_least, [], []⟩
def d_Telling_within : He.DefD := ⟨("Telling", some "within"), "within", "Telling.within", defArgs s_Telling_within, defBody s_Telling_within, defScope s_Telling_within, [], []⟩
def d_Telling_ends : He.DefD := ⟨("Telling", some "ends"), "ends", "Telling.ends", defArgs s_Telling_ends, defBody s_Telling_ends, defScope s_Telling_ends, [], []⟩
def d_Telling_way : He.DefD := ⟨("Telling", some "way"), "way", "Telling.way", defArgs s_Telling_way, defBody s_Telling_way, defScope s_Telling_way, [], []⟩
def d_Telling_way_of : He.DefD := ⟨("Telling", some "way_of"), "way_of", "Telling.way_of", defArgs s_Telling_way_of, defBody s_Telling_way_of, defScope s_Telling_way_of, [], []⟩
def d_Telling_cell_way : He.DefD := ⟨("Telling", some "cell_way"), "cell_way", "Telling.cell_way", defArgs s_Telling_cell_way, defBody s_Telling_cell_way, defScope s_Telling_cell_way, [], []⟩
def d_fewest_facts : He.DefD := ⟨("fewest_facts", none), "fewest_facts", "fewest_facts", defArgs s_fewest_facts, defBody s_fewest_facts, defScope s_fewest_facts, [], []⟩
def d_is_enough : He.DefD := ⟨("is_enough", none), "is_enough", "is_enough", defArgs s_is_enough, defBody s_is_enough, defScope s_is_enough, [], []⟩
def d_place_in : He.DefD := ⟨("place_in", none), "place_in", "place_in", defArgs s_place_in, defBody s_place_in, defScope s_place_in, [], []⟩
def d_Cloud_init : He.DefD := ⟨("Cloud", some "__init__"), "__init__", "Cloud.__init__", defArgs s_Cloud_init, defBody s_Cloud_init, defScope s_Cloud_init, [], []⟩
def d_Cloud_count : He.DefD := ⟨("Cloud", some "count"), "count", "Cloud.count", defArgs s_Cloud_count, defBody s_Cloud_count, defScope s_Cloud_count, [], []⟩
def d_Space_init : He.DefD := ⟨("Space", some "__init__"), "__init__", "Space.__init__", defArgs s_Space_init, defBody s_Space_init, defScope s_Space_init, [], []⟩
def d_Space_is_point : He.DefD := ⟨("Space", some "is_point"), "is_point", "Space.is_point", defArgs s_Space_is_point, defBody s_Space_is_point, defScope s_Space_is_point, [], []⟩
def d_Space_check_point : He.DefD := ⟨("Space", some "check_point"), "check_point", "Space.check_point", defArgs s_Space_check_point, defBody s_Space_check_point, defScope s_Space_check_point, [], []⟩
def d_Space_woven : He.DefD := ⟨("Space", some "woven"), "woven", "Space.woven", defArgs s_Space_woven, defBody s_Space_woven, defScope s_Space_woven, [], []⟩
def d_Space_point_of : He.DefD := ⟨("Space", some "point_of"), "point_of", "Space.point_of", defArgs s_Space_point_of, defBody s_Space_point_of, defScope s_Space_point_of, [], []⟩
def d_Space_size : He.DefD := ⟨("Space", some "size"), "size", "Space.size", defArgs s_Space_size, defBody s_Space_size, defScope s_Space_size, [], []⟩
def d_Space_is_prefix : He.DefD := ⟨("Space", some "is_prefix"), "is_prefix", "Space.is_prefix", defArgs s_Space_is_prefix, defBody s_Space_is_prefix, defScope s_Space_is_prefix, [], []⟩
def d_Space_cell : He.DefD := ⟨("Space", some "cell"), "cell", "Space.cell", defArgs s_Space_cell, defBody s_Space_cell, defScope s_Space_cell, [], []⟩
def d_Box_init : He.DefD := ⟨("Box", some "__init__"), "__init__", "Box.__init__", defArgs s_Box_init, defBody s_Box_init, defScope s_Box_init, [], []⟩
def d_Box_room : He.DefD := ⟨("Box", some "room"), "room", "Box.room", defArgs s_Box_room, defBody s_Box_room, defScope s_Box_room, [], []⟩
def d_is_inside : He.DefD := ⟨("is_inside", none), "is_inside", "is_inside", defArgs s_is_inside, defBody s_is_inside, defScope s_is_inside, [], []⟩
def d_Rest_init : He.DefD := ⟨("Rest", some "__init__"), "__init__", "Rest.__init__", defArgs s_Rest_init, defBody s_Rest_init, defScope s_Rest_init, [], []⟩
def d_Knowledge_init : He.DefD := ⟨("Knowledge", some "__init__"), "__init__", "Knowledge.__init__", defArgs s_Knowledge_init, defBody s_Knowledge_init, defScope s_Knowledge_init, [], []⟩
def d_Knowledge_is_fit : He.DefD := ⟨("Knowledge", some "is_fit"), "is_fit", "Knowledge.is_fit", defArgs s_Knowledge_is_fit, defBody s_Knowledge_is_fit, defScope s_Knowledge_is_fit, [], []⟩
def d_Knowledge_rests : He.DefD := ⟨("Knowledge", some "rests"), "rests", "Knowledge.rests", defArgs s_Knowledge_rests, defBody s_Knowledge_rests, defScope s_Knowledge_rests, [], []⟩
def d_Knowledge_next_inside : He.DefD := ⟨("Knowledge", some "next_inside"), "next_inside", "Knowledge.next_inside", defArgs s_Knowledge_next_inside, defBody s_Knowledge_next_inside, defScope s_Knowledge_next_inside, [], []⟩
def d_Knowledge_points_left : He.DefD := ⟨("Knowledge", some "points_left"), "points_left", "Knowledge.points_left", defArgs s_Knowledge_points_left, defBody s_Knowledge_points_left, defScope s_Knowledge_points_left, [], []⟩
def d_Knowledge_room : He.DefD := ⟨("Knowledge", some "room"), "room", "Knowledge.room", defArgs s_Knowledge_room, defBody s_Knowledge_room, defScope s_Knowledge_room, [], []⟩
def d_Knowledge_room_in : He.DefD := ⟨("Knowledge", some "room_in"), "room_in", "Knowledge.room_in", defArgs s_Knowledge_room_in, defBody s_Knowledge_room_in, defScope s_Knowledge_room_in, [], []⟩
def d_Knowledge_bounds : He.DefD := ⟨("Knowledge", some "bounds"), "bounds", "Knowledge.bounds", defArgs s_Knowledge_bounds, defBody s_Knowledge_bounds, defScope s_Knowledge_bounds, [], []⟩
def d_Knowledge_known : He.DefD := ⟨("Knowledge", some "known"), "known", "Knowledge.known", defArgs s_Knowledge_known, defBody s_Knowledge_known, defScope s_Knowledge_known, [], []⟩
def d_law_number : He.DefD := ⟨("_law_number", none), "_law_number", "_law_number", defArgs s_law_number, defBody s_law_number, defScope s_law_number, [], []⟩
def d_law_take : He.DefD := ⟨("_law_take", none), "_law_take", "_law_take", defArgs s_law_take, defBody s_law_take, defScope s_law_take, [], []⟩
def d_law_pick : He.DefD := ⟨("_law_pick", none), "_law_pick", "_law_pick", defArgs s_law_pick, defBody s_law_pick, defScope s_law_pick, [], []⟩
def d_law_tiny : He.DefD := ⟨("_law_tiny", none), "_law_tiny", "_law_tiny", defArgs s_law_tiny, defBody s_law_tiny, defScope s_law_tiny, [], []⟩
def d_law_all : He.DefD := ⟨("_law_all", none), "_law_all", "_law_all", defArgs s_law_all, defBody s_law_all, defScope s_law_all, [], []⟩
def d_law_points : He.DefD := ⟨("_law_points", none), "_law_points", "_law_points", defArgs s_law_points, defBody s_law_points, defScope s_law_points, [], []⟩
def d_law_point : He.DefD := ⟨("_law_point", none), "_law_point", "_law_point", defArgs s_law_point, defBody s_law_point, defScope s_law_point, [], []⟩
def d_law_box : He.DefD := ⟨("_law_box", none), "_law_box", "_law_box", defArgs s_law_box, defBody s_law_box, defScope s_law_box, [], []⟩
def d_law_prefixes : He.DefD := ⟨("_law_prefixes", none), "_law_prefixes", "_law_prefixes", defArgs s_law_prefixes, defBody s_law_prefixes, defScope s_law_prefixes, [], []⟩
def d_law_facts : He.DefD := ⟨("_law_facts", none), "_law_facts", "_law_facts", defArgs s_law_facts, defBody s_law_facts, defScope s_law_facts, [], []⟩
def d_law_clouds : He.DefD := ⟨("_law_clouds", none), "_law_clouds", "_law_clouds", defArgs s_law_clouds, defBody s_law_clouds, defScope s_law_clouds, [], []⟩
def d_law_sees : He.DefD := ⟨("_law_sees", none), "_law_sees", "_law_sees", defArgs s_law_sees, defBody s_law_sees, defScope s_law_sees, [], []⟩
def d_law : He.DefD := ⟨("law", none), "law", "law", defArgs s_law, defBody s_law, defScope s_law, [], []⟩
def fnL : List He.DefD := [d_halves_of, d_is_whole, d_power, d_Telling_init, d_Telling_is_cell, d_Telling_is_needed, d_Telling_told, d_Telling_both, d_Telling_least, d_Telling_within, d_Telling_ends, d_Telling_way, d_Telling_way_of, d_Telling_cell_way, d_fewest_facts, d_is_enough, d_place_in, d_Cloud_init, d_Cloud_count, d_Space_init, d_Space_is_point, d_Space_check_point, d_Space_woven, d_Space_point_of, d_Space_size, d_Space_is_prefix, d_Space_cell, d_Box_init, d_Box_room, d_is_inside, d_Rest_init, d_Knowledge_init, d_Knowledge_is_fit, d_Knowledge_rests, d_Knowledge_next_inside, d_Knowledge_points_left, d_Knowledge_room, d_Knowledge_room_in, d_Knowledge_bounds, d_Knowledge_known, d_law_number, d_law_take, d_law_pick, d_law_tiny, d_law_all, d_law_points, d_law_point, d_law_box, d_law_prefixes, d_law_facts, d_law_clouds, d_law_sees, d_law]
def faL0 : List He.Fa := [.glo "halves_of", .glo "is_whole", .glo "power", .glo "fewest_facts", .glo "is_enough", .glo "place_in", .glo "is_inside", .glo "_law_number", .glo "_law_take", .glo "_law_pick", .glo "_law_tiny", .glo "_law_all", .glo "_law_points", .glo "_law_point", .glo "_law_box", .glo "_law_prefixes", .glo "_law_facts", .glo "_law_clouds", .glo "_law_sees", .glo "law", .glo "Space", .cls "Space", .mkr "Space", .noat "Space" "dimensions", .noat "Space" "bits", .noat "Space" "depth", .noat "Space" "side", .glo "Box", .cls "Box", .mkr "Box"]
def faL1 : List He.Fa := [.noat "Box" "space", .noat "Box" "lows", .noat "Box" "highs", .glo "Cloud", .cls "Cloud", .mkr "Cloud", .noat "Cloud" "space", .noat "Cloud" "row", .glo "Rest", .cls "Rest", .mkr "Rest", .noat "Rest" "prefix", .noat "Rest" "count", .noat "Rest" "inner", .glo "Knowledge", .cls "Knowledge", .mkr "Knowledge", .noat "Knowledge" "space", .noat "Knowledge" "facts", .glo "Telling", .cls "Telling", .mkr "Telling", .noat "Telling" "cloud", .noat "Telling" "space", .noat "Telling" "facts", .noat "Telling" "box", .noat "Telling" "fineness", .noat "Telling" "known", .noat "Telling" "holders", .meth "Telling" "is_cell"]
def faL2 : List He.Fa := [.meth "Telling" "is_needed", .meth "Telling" "told", .meth "Telling" "both", .meth "Telling" "least", .meth "Telling" "within", .meth "Telling" "ends", .meth "Telling" "way", .meth "Telling" "way_of", .meth "Telling" "cell_way", .meth "Cloud" "count", .meth "Space" "is_point", .meth "Space" "check_point", .meth "Space" "woven", .meth "Space" "point_of", .meth "Space" "size", .meth "Space" "is_prefix", .meth "Space" "cell", .meth "Box" "room", .meth "Knowledge" "is_fit", .meth "Knowledge" "rests", .meth "Knowledge" "next_inside", .meth "Knowledge" "points_left", .meth "Knowledge" "room", .meth "Knowledge" "room_in", .meth "Knowledge" "bounds", .meth "Knowledge" "known", .int "MOST_DIMENSIONS" 3, .int "MOST_BITS" 10, .free "isinstance", .free "int"]
def faL3 : List He.Fa := [.free "bool", .free "range", .free "len", .free "sorted", .free "min", .free "max", .free "tuple", .free "list", .free "dict", .free "sum", .free "all", .free "any", .free "abs", .free "zip"]
def faL : List He.Fa := faL0 ++ faL1 ++ faL2 ++ faL3
def loose0 : List PySem.Str := ["_wall", "halves_of", "CloudError", "BadSpace", "BadPoint", "BadPiece", "is_whole", "power", "Telling", "fewest_facts", "is_enough", "place_in", "Cloud", "MOST_DIMENSIONS", "MOST_BITS", "Space", "Box", "is_inside", "Rest", "Knowledge", "_law_number", "_law_take", "_law_pick", "_law_tiny", "_law_all", "_law_points", "_law_point", "_law_box", "_law_prefixes", "_law_facts"]
def loose1 : List PySem.Str := ["_law_clouds", "_law_sees"]
def looseL : List PySem.Str := loose0 ++ loose1
/-! ### what is known, by names -/
structure Tx (K : PySem.W.Frag) (mg : Str → Option Value) : Prop where
  c : He.SaysD faL fnL K
  glo : ∀ x : Str, (He.Fa.glo x).ok K = true → mg x = some (.ref (He.ga K x))
  free : ∀ x : Str, (He.Fa.free x).ok K = true → mg x = none
  int : ∀ (x : Str) (i : Int), (He.Fa.int x i).ok K = true → ∃ t, mg x = some (.int i t)
theorem Tx.of {K : PySem.W.Frag} {h : Heap} {mg : Str → Option Value} (X : K.In h) (G : h.Ns mainGlobals mg) (c : He.SaysD faL fnL K) : Tx K mg :=
  ⟨c, fun _ => He.glo_ok X G, fun _ => He.free_ok X G, fun _ _ => He.int_ok X G⟩
section
variable {K : PySem.W.Frag} {mg : Str → Option Value}
theorem Tx.g_halves_of (T : Tx K mg) : mg "halves_of" = some (.ref (He.ga K "halves_of")) := T.glo _ (T.c.fact 0 (by rfl))
theorem Tx.g_is_whole (T : Tx K mg) : mg "is_whole" = some (.ref (He.ga K "is_whole")) := T.glo _ (T.c.fact 1 (by rfl))
theorem Tx.g_power (T : Tx K mg) : mg "power" = some (.ref (He.ga K "power")) := T.glo _ (T.c.fact 2 (by rfl))
theorem Tx.g_fewest_facts (T : Tx K mg) : mg "fewest_facts" = some (.ref (He.ga K "fewest_facts")) := T.glo _ (T.c.fact 3 (by rfl))
theorem Tx.g_is_enough (T : Tx K mg) : mg "is_enough" = some (.ref (He.ga K "is_enough")) := T.glo _ (T.c.fact 4 (by rfl))
theorem Tx.g_place_in (T : Tx K mg) : mg "place_in" = some (.ref (He.ga K "place_in")) := T.glo _ (T.c.fact 5 (by rfl))
theorem Tx.g_is_inside (T : Tx K mg) : mg "is_inside" = some (.ref (He.ga K "is_inside")) := T.glo _ (T.c.fact 6 (by rfl))
theorem Tx.g_law_number (T : Tx K mg) : mg "_law_number" = some (.ref (He.ga K "_law_number")) := T.glo _ (T.c.fact 7 (by rfl))
theorem Tx.g_law_take (T : Tx K mg) : mg "_law_take" = some (.ref (He.ga K "_law_take")) := T.glo _ (T.c.fact 8 (by rfl))
theorem Tx.g_law_pick (T : Tx K mg) : mg "_law_pick" = some (.ref (He.ga K "_law_pick")) := T.glo _ (T.c.fact 9 (by rfl))
theorem Tx.g_law_tiny (T : Tx K mg) : mg "_law_tiny" = some (.ref (He.ga K "_law_tiny")) := T.glo _ (T.c.fact 10 (by rfl))
theorem Tx.g_law_all (T : Tx K mg) : mg "_law_all" = some (.ref (He.ga K "_law_all")) := T.glo _ (T.c.fact 11 (by rfl))
theorem Tx.g_law_points (T : Tx K mg) : mg "_law_points" = some (.ref (He.ga K "_law_points")) := T.glo _ (T.c.fact 12 (by rfl))
theorem Tx.g_law_point (T : Tx K mg) : mg "_law_point" = some (.ref (He.ga K "_law_point")) := T.glo _ (T.c.fact 13 (by rfl))
theorem Tx.g_law_box (T : Tx K mg) : mg "_law_box" = some (.ref (He.ga K "_law_box")) := T.glo _ (T.c.fact 14 (by rfl))
theorem Tx.g_law_prefixes (T : Tx K mg) : mg "_law_prefixes" = some (.ref (He.ga K "_law_prefixes")) := T.glo _ (T.c.fact 15 (by rfl))
theorem Tx.g_law_facts (T : Tx K mg) : mg "_law_facts" = some (.ref (He.ga K "_law_facts")) := T.glo _ (T.c.fact 16 (by rfl))
theorem Tx.g_law_clouds (T : Tx K mg) : mg "_law_clouds" = some (.ref (He.ga K "_law_clouds")) := T.glo _ (T.c.fact 17 (by rfl))
theorem Tx.g_law_sees (T : Tx K mg) : mg "_law_sees" = some (.ref (He.ga K "_law_sees")) := T.glo _ (T.c.fact 18 (by rfl))
theorem Tx.g_law (T : Tx K mg) : mg "law" = some (.ref (He.ga K "law")) := T.glo _ (T.c.fact 19 (by rfl))
theorem Tx.g_Space (T : Tx K mg) : mg "Space" = some (.ref (He.ga K "Space")) := T.glo _ (T.c.fact 20 (by rfl))
theorem Tx.c_Space (T : Tx K mg) : Cls K (He.ga K "Space") := He.cls_ok (T.c.fact 21 (by rfl))
theorem Tx.m_Space (T : Tx K mg) : Mk K (He.ga K "Space") (He.ma K (He.ga K "Space") "__init__") := He.mkr_ok (T.c.fact 22 (by rfl))
theorem Tx.n_Space_dimensions (T : Tx K mg) : NoAttr K (He.ga K "Space") "dimensions" := He.noat_ok (T.c.fact 23 (by rfl))
theorem Tx.n_Space_bits (T : Tx K mg) : NoAttr K (He.ga K "Space") "bits" := He.noat_ok (T.c.fact 24 (by rfl))
theorem Tx.n_Space_depth (T : Tx K mg) : NoAttr K (He.ga K "Space") "depth" := He.noat_ok (T.c.fact 25 (by rfl))
theorem Tx.n_Space_side (T : Tx K mg) : NoAttr K (He.ga K "Space") "side" := He.noat_ok (T.c.fact 26 (by rfl))
theorem Tx.g_Box (T : Tx K mg) : mg "Box" = some (.ref (He.ga K "Box")) := T.glo _ (T.c.fact 27 (by rfl))
theorem Tx.c_Box (T : Tx K mg) : Cls K (He.ga K "Box") := He.cls_ok (T.c.fact 28 (by rfl))
theorem Tx.m_Box (T : Tx K mg) : Mk K (He.ga K "Box") (He.ma K (He.ga K "Box") "__init__") := He.mkr_ok (T.c.fact 29 (by rfl))
theorem Tx.n_Box_space (T : Tx K mg) : NoAttr K (He.ga K "Box") "space" := He.noat_ok (T.c.fact 30 (by rfl))
theorem Tx.n_Box_lows (T : Tx K mg) : NoAttr K (He.ga K "Box") "lows" := He.noat_ok (T.c.fact 31 (by rfl))
theorem Tx.n_Box_highs (T : Tx K mg) : NoAttr K (He.ga K "Box") "highs" := He.noat_ok (T.c.fact 32 (by rfl))
theorem Tx.g_Cloud (T : Tx K mg) : mg "Cloud" = some (.ref (He.ga K "Cloud")) := T.glo _ (T.c.fact 33 (by rfl))
theorem Tx.c_Cloud (T : Tx K mg) : Cls K (He.ga K "Cloud") := He.cls_ok (T.c.fact 34 (by rfl))
theorem Tx.m_Cloud (T : Tx K mg) : Mk K (He.ga K "Cloud") (He.ma K (He.ga K "Cloud") "__init__") := He.mkr_ok (T.c.fact 35 (by rfl))
theorem Tx.n_Cloud_space (T : Tx K mg) : NoAttr K (He.ga K "Cloud") "space" := He.noat_ok (T.c.fact 36 (by rfl))
theorem Tx.n_Cloud_row (T : Tx K mg) : NoAttr K (He.ga K "Cloud") "row" := He.noat_ok (T.c.fact 37 (by rfl))
theorem Tx.g_Rest (T : Tx K mg) : mg "Rest" = some (.ref (He.ga K "Rest")) := T.glo _ (T.c.fact 38 (by rfl))
theorem Tx.c_Rest (T : Tx K mg) : Cls K (He.ga K "Rest") := He.cls_ok (T.c.fact 39 (by rfl))
theorem Tx.m_Rest (T : Tx K mg) : Mk K (He.ga K "Rest") (He.ma K (He.ga K "Rest") "__init__") := He.mkr_ok (T.c.fact 40 (by rfl))
theorem Tx.n_Rest_prefix (T : Tx K mg) : NoAttr K (He.ga K "Rest") "prefix" := He.noat_ok (T.c.fact 41 (by rfl))
theorem Tx.n_Rest_count (T : Tx K mg) : NoAttr K (He.ga K "Rest") "count" := He.noat_ok (T.c.fact 42 (by rfl))
theorem Tx.n_Rest_inner (T : Tx K mg) : NoAttr K (He.ga K "Rest") "inner" := He.noat_ok (T.c.fact 43 (by rfl))
theorem Tx.g_Knowledge (T : Tx K mg) : mg "Knowledge" = some (.ref (He.ga K "Knowledge")) := T.glo _ (T.c.fact 44 (by rfl))
theorem Tx.c_Knowledge (T : Tx K mg) : Cls K (He.ga K "Knowledge") := He.cls_ok (T.c.fact 45 (by rfl))
theorem Tx.m_Knowledge (T : Tx K mg) : Mk K (He.ga K "Knowledge") (He.ma K (He.ga K "Knowledge") "__init__") := He.mkr_ok (T.c.fact 46 (by rfl))
theorem Tx.n_Knowledge_space (T : Tx K mg) : NoAttr K (He.ga K "Knowledge") "space" := He.noat_ok (T.c.fact 47 (by rfl))
theorem Tx.n_Knowledge_facts (T : Tx K mg) : NoAttr K (He.ga K "Knowledge") "facts" := He.noat_ok (T.c.fact 48 (by rfl))
theorem Tx.g_Telling (T : Tx K mg) : mg "Telling" = some (.ref (He.ga K "Telling")) := T.glo _ (T.c.fact 49 (by rfl))
theorem Tx.c_Telling (T : Tx K mg) : Cls K (He.ga K "Telling") := He.cls_ok (T.c.fact 50 (by rfl))
theorem Tx.m_Telling (T : Tx K mg) : Mk K (He.ga K "Telling") (He.ma K (He.ga K "Telling") "__init__") := He.mkr_ok (T.c.fact 51 (by rfl))
theorem Tx.n_Telling_cloud (T : Tx K mg) : NoAttr K (He.ga K "Telling") "cloud" := He.noat_ok (T.c.fact 52 (by rfl))
theorem Tx.n_Telling_space (T : Tx K mg) : NoAttr K (He.ga K "Telling") "space" := He.noat_ok (T.c.fact 53 (by rfl))
theorem Tx.n_Telling_facts (T : Tx K mg) : NoAttr K (He.ga K "Telling") "facts" := He.noat_ok (T.c.fact 54 (by rfl))
theorem Tx.n_Telling_box (T : Tx K mg) : NoAttr K (He.ga K "Telling") "box" := He.noat_ok (T.c.fact 55 (by rfl))
theorem Tx.n_Telling_fineness (T : Tx K mg) : NoAttr K (He.ga K "Telling") "fineness" := He.noat_ok (T.c.fact 56 (by rfl))
theorem Tx.n_Telling_known (T : Tx K mg) : NoAttr K (He.ga K "Telling") "known" := He.noat_ok (T.c.fact 57 (by rfl))
theorem Tx.n_Telling_holders (T : Tx K mg) : NoAttr K (He.ga K "Telling") "holders" := He.noat_ok (T.c.fact 58 (by rfl))
theorem Tx.t_Telling_is_cell (T : Tx K mg) : Meth K (He.ga K "Telling") "is_cell" (He.ma K (He.ga K "Telling") "is_cell") := He.meth_ok (T.c.fact 59 (by rfl))
theorem Tx.t_Telling_is_needed (T : Tx K mg) : Meth K (He.ga K "Telling") "is_needed" (He.ma K (He.ga K "Telling") "is_needed") := He.meth_ok (T.c.fact 60 (by rfl))
theorem Tx.t_Telling_told (T : Tx K mg) : Meth K (He.ga K "Telling") "told" (He.ma K (He.ga K "Telling") "told") := He.meth_ok (T.c.fact 61 (by rfl))
theorem Tx.t_Telling_both (T : Tx K mg) : Meth K (He.ga K "Telling") "both" (He.ma K (He.ga K "Telling") "both") := He.meth_ok (T.c.fact 62 (by rfl))
theorem Tx.t_Telling_least (T : Tx K mg) : Meth K (He.ga K "Telling") "least" (He.ma K (He.ga K "Telling") "least") := He.meth_ok (T.c.fact 63 (by rfl))
theorem Tx.t_Telling_within (T : Tx K mg) : Meth K (He.ga K "Telling") "within" (He.ma K (He.ga K "Telling") "within") := He.meth_ok (T.c.fact 64 (by rfl))
theorem Tx.t_Telling_ends (T : Tx K mg) : Meth K (He.ga K "Telling") "ends" (He.ma K (He.ga K "Telling") "ends") := He.meth_ok (T.c.fact 65 (by rfl))
theorem Tx.t_Telling_way (T : Tx K mg) : Meth K (He.ga K "Telling") "way" (He.ma K (He.ga K "Telling") "way") := He.meth_ok (T.c.fact 66 (by rfl))
theorem Tx.t_Telling_way_of (T : Tx K mg) : Meth K (He.ga K "Telling") "way_of" (He.ma K (He.ga K "Telling") "way_of") := He.meth_ok (T.c.fact 67 (by rfl))
theorem Tx.t_Telling_cell_way (T : Tx K mg) : Meth K (He.ga K "Telling") "cell_way" (He.ma K (He.ga K "Telling") "cell_way") := He.meth_ok (T.c.fact 68 (by rfl))
theorem Tx.t_Cloud_count (T : Tx K mg) : Meth K (He.ga K "Cloud") "count" (He.ma K (He.ga K "Cloud") "count") := He.meth_ok (T.c.fact 69 (by rfl))
theorem Tx.t_Space_is_point (T : Tx K mg) : Meth K (He.ga K "Space") "is_point" (He.ma K (He.ga K "Space") "is_point") := He.meth_ok (T.c.fact 70 (by rfl))
theorem Tx.t_Space_check_point (T : Tx K mg) : Meth K (He.ga K "Space") "check_point" (He.ma K (He.ga K "Space") "check_point") := He.meth_ok (T.c.fact 71 (by rfl))
theorem Tx.t_Space_woven (T : Tx K mg) : Meth K (He.ga K "Space") "woven" (He.ma K (He.ga K "Space") "woven") := He.meth_ok (T.c.fact 72 (by rfl))
theorem Tx.t_Space_point_of (T : Tx K mg) : Meth K (He.ga K "Space") "point_of" (He.ma K (He.ga K "Space") "point_of") := He.meth_ok (T.c.fact 73 (by rfl))
theorem Tx.t_Space_size (T : Tx K mg) : Meth K (He.ga K "Space") "size" (He.ma K (He.ga K "Space") "size") := He.meth_ok (T.c.fact 74 (by rfl))
theorem Tx.t_Space_is_prefix (T : Tx K mg) : Meth K (He.ga K "Space") "is_prefix" (He.ma K (He.ga K "Space") "is_prefix") := He.meth_ok (T.c.fact 75 (by rfl))
theorem Tx.t_Space_cell (T : Tx K mg) : Meth K (He.ga K "Space") "cell" (He.ma K (He.ga K "Space") "cell") := He.meth_ok (T.c.fact 76 (by rfl))
theorem Tx.t_Box_room (T : Tx K mg) : Meth K (He.ga K "Box") "room" (He.ma K (He.ga K "Box") "room") := He.meth_ok (T.c.fact 77 (by rfl))
theorem Tx.t_Knowledge_is_fit (T : Tx K mg) : Meth K (He.ga K "Knowledge") "is_fit" (He.ma K (He.ga K "Knowledge") "is_fit") := He.meth_ok (T.c.fact 78 (by rfl))
theorem Tx.t_Knowledge_rests (T : Tx K mg) : Meth K (He.ga K "Knowledge") "rests" (He.ma K (He.ga K "Knowledge") "rests") := He.meth_ok (T.c.fact 79 (by rfl))
theorem Tx.t_Knowledge_next_inside (T : Tx K mg) : Meth K (He.ga K "Knowledge") "next_inside" (He.ma K (He.ga K "Knowledge") "next_inside") := He.meth_ok (T.c.fact 80 (by rfl))
theorem Tx.t_Knowledge_points_left (T : Tx K mg) : Meth K (He.ga K "Knowledge") "points_left" (He.ma K (He.ga K "Knowledge") "points_left") := He.meth_ok (T.c.fact 81 (by rfl))
theorem Tx.t_Knowledge_room (T : Tx K mg) : Meth K (He.ga K "Knowledge") "room" (He.ma K (He.ga K "Knowledge") "room") := He.meth_ok (T.c.fact 82 (by rfl))
theorem Tx.t_Knowledge_room_in (T : Tx K mg) : Meth K (He.ga K "Knowledge") "room_in" (He.ma K (He.ga K "Knowledge") "room_in") := He.meth_ok (T.c.fact 83 (by rfl))
theorem Tx.t_Knowledge_bounds (T : Tx K mg) : Meth K (He.ga K "Knowledge") "bounds" (He.ma K (He.ga K "Knowledge") "bounds") := He.meth_ok (T.c.fact 84 (by rfl))
theorem Tx.t_Knowledge_known (T : Tx K mg) : Meth K (He.ga K "Knowledge") "known" (He.ma K (He.ga K "Knowledge") "known") := He.meth_ok (T.c.fact 85 (by rfl))
theorem Tx.i_MOST_DIMENSIONS (T : Tx K mg) : ∃ t, mg "MOST_DIMENSIONS" = some (.int 3 t) := T.int _ _ (T.c.fact 86 (by rfl))
theorem Tx.i_MOST_BITS (T : Tx K mg) : ∃ t, mg "MOST_BITS" = some (.int 10 t) := T.int _ _ (T.c.fact 87 (by rfl))
theorem Tx.f_isinstance (T : Tx K mg) : mg "isinstance" = none := T.free _ (T.c.fact 88 (by rfl))
theorem Tx.f_int (T : Tx K mg) : mg "int" = none := T.free _ (T.c.fact 89 (by rfl))
theorem Tx.f_bool (T : Tx K mg) : mg "bool" = none := T.free _ (T.c.fact 90 (by rfl))
theorem Tx.f_range (T : Tx K mg) : mg "range" = none := T.free _ (T.c.fact 91 (by rfl))
theorem Tx.f_len (T : Tx K mg) : mg "len" = none := T.free _ (T.c.fact 92 (by rfl))
theorem Tx.f_sorted (T : Tx K mg) : mg "sorted" = none := T.free _ (T.c.fact 93 (by rfl))
theorem Tx.f_min (T : Tx K mg) : mg "min" = none := T.free _ (T.c.fact 94 (by rfl))
theorem Tx.f_max (T : Tx K mg) : mg "max" = none := T.free _ (T.c.fact 95 (by rfl))
theorem Tx.f_tuple (T : Tx K mg) : mg "tuple" = none := T.free _ (T.c.fact 96 (by rfl))
theorem Tx.f_list (T : Tx K mg) : mg "list" = none := T.free _ (T.c.fact 97 (by rfl))
theorem Tx.f_dict (T : Tx K mg) : mg "dict" = none := T.free _ (T.c.fact 98 (by rfl))
theorem Tx.f_sum (T : Tx K mg) : mg "sum" = none := T.free _ (T.c.fact 99 (by rfl))
theorem Tx.f_all (T : Tx K mg) : mg "all" = none := T.free _ (T.c.fact 100 (by rfl))
theorem Tx.f_any (T : Tx K mg) : mg "any" = none := T.free _ (T.c.fact 101 (by rfl))
theorem Tx.f_abs (T : Tx K mg) : mg "abs" = none := T.free _ (T.c.fact 102 (by rfl))
theorem Tx.f_zip (T : Tx K mg) : mg "zip" = none := T.free _ (T.c.fact 103 (by rfl))
/-- a def of the text: where it stands, its body -/
def FnAt (K : PySem.W.Frag) (d : He.DefD) : Prop := ∃ fd, FunD K d.name d.qual d.params d.body d.scope [] [] (He.fAd K d.at_) fd
theorem Tx.at_halves_of (T : Tx K mg) : FnAt K d_halves_of := T.c.def_ 0 (d := d_halves_of) (by rfl)
theorem Tx.at_is_whole (T : Tx K mg) : FnAt K d_is_whole := T.c.def_ 1 (d := d_is_whole) (by rfl)
theorem Tx.at_power (T : Tx K mg) : FnAt K d_power := T.c.def_ 2 (d := d_power) (by rfl)
theorem Tx.at_Telling_init (T : Tx K mg) : FnAt K d_Telling_init := T.c.def_ 3 (d := d_Telling_init) (by rfl)
theorem Tx.at_Telling_is_cell (T : Tx K mg) : FnAt K d_Telling_is_cell := T.c.def_ 4 (d := d_Telling_is_cell) (by rfl)
theorem Tx.at_Telling_is_needed (T : Tx K mg) : FnAt K d_Telling_is_needed := T.c.def_ 5 (d := d_Telling_is_needed) (by rfl)
theorem Tx.at_Telling_told (T : Tx K mg) : FnAt K d_Telling_told := T.c.def_ 6 (d := d_Telling_told) (by rfl)
theorem Tx.at_Telling_both (T : Tx K mg) : FnAt K d_Telling_both := T.c.def_ 7 (d := d_Telling_both) (by rfl)
theorem Tx.at_Telling_least (T : Tx K mg) : FnAt K d_Telling_least := T.c.def_ 8 (d := d_Telling_least) (by rfl)
theorem Tx.at_Telling_within (T : Tx K mg) : FnAt K d_Telling_within := T.c.def_ 9 (d := d_Telling_within) (by rfl)
theorem Tx.at_Telling_ends (T : Tx K mg) : FnAt K d_Telling_ends := T.c.def_ 10 (d := d_Telling_ends) (by rfl)
theorem Tx.at_Telling_way (T : Tx K mg) : FnAt K d_Telling_way := T.c.def_ 11 (d := d_Telling_way) (by rfl)
theorem Tx.at_Telling_way_of (T : Tx K mg) : FnAt K d_Telling_way_of := T.c.def_ 12 (d := d_Telling_way_of) (by rfl)
theorem Tx.at_Telling_cell_way (T : Tx K mg) : FnAt K d_Telling_cell_way := T.c.def_ 13 (d := d_Telling_cell_way) (by rfl)
theorem Tx.at_fewest_facts (T : Tx K mg) : FnAt K d_fewest_facts := T.c.def_ 14 (d := d_fewest_facts) (by rfl)
theorem Tx.at_is_enough (T : Tx K mg) : FnAt K d_is_enough := T.c.def_ 15 (d := d_is_enough) (by rfl)
theorem Tx.at_place_in (T : Tx K mg) : FnAt K d_place_in := T.c.def_ 16 (d := d_place_in) (by rfl)
theorem Tx.at_Cloud_init (T : Tx K mg) : FnAt K d_Cloud_init := T.c.def_ 17 (d := d_Cloud_init) (by rfl)
theorem Tx.at_Cloud_count (T : Tx K mg) : FnAt K d_Cloud_count := T.c.def_ 18 (d := d_Cloud_count) (by rfl)
theorem Tx.at_Space_init (T : Tx K mg) : FnAt K d_Space_init := T.c.def_ 19 (d := d_Space_init) (by rfl)
theorem Tx.at_Space_is_point (T : Tx K mg) : FnAt K d_Space_is_point := T.c.def_ 20 (d := d_Space_is_point) (by rfl)
theorem Tx.at_Space_check_point (T : Tx K mg) : FnAt K d_Space_check_point := T.c.def_ 21 (d := d_Space_check_point) (by rfl)
theorem Tx.at_Space_woven (T : Tx K mg) : FnAt K d_Space_woven := T.c.def_ 22 (d := d_Space_woven) (by rfl)
theorem Tx.at_Space_point_of (T : Tx K mg) : FnAt K d_Space_point_of := T.c.def_ 23 (d := d_Space_point_of) (by rfl)
theorem Tx.at_Space_size (T : Tx K mg) : FnAt K d_Space_size := T.c.def_ 24 (d := d_Space_size) (by rfl)
theorem Tx.at_Space_is_prefix (T : Tx K mg) : FnAt K d_Space_is_prefix := T.c.def_ 25 (d := d_Space_is_prefix) (by rfl)
theorem Tx.at_Space_cell (T : Tx K mg) : FnAt K d_Space_cell := T.c.def_ 26 (d := d_Space_cell) (by rfl)
theorem Tx.at_Box_init (T : Tx K mg) : FnAt K d_Box_init := T.c.def_ 27 (d := d_Box_init) (by rfl)
theorem Tx.at_Box_room (T : Tx K mg) : FnAt K d_Box_room := T.c.def_ 28 (d := d_Box_room) (by rfl)
theorem Tx.at_is_inside (T : Tx K mg) : FnAt K d_is_inside := T.c.def_ 29 (d := d_is_inside) (by rfl)
theorem Tx.at_Rest_init (T : Tx K mg) : FnAt K d_Rest_init := T.c.def_ 30 (d := d_Rest_init) (by rfl)
theorem Tx.at_Knowledge_init (T : Tx K mg) : FnAt K d_Knowledge_init := T.c.def_ 31 (d := d_Knowledge_init) (by rfl)
theorem Tx.at_Knowledge_is_fit (T : Tx K mg) : FnAt K d_Knowledge_is_fit := T.c.def_ 32 (d := d_Knowledge_is_fit) (by rfl)
theorem Tx.at_Knowledge_rests (T : Tx K mg) : FnAt K d_Knowledge_rests := T.c.def_ 33 (d := d_Knowledge_rests) (by rfl)
theorem Tx.at_Knowledge_next_inside (T : Tx K mg) : FnAt K d_Knowledge_next_inside := T.c.def_ 34 (d := d_Knowledge_next_inside) (by rfl)
theorem Tx.at_Knowledge_points_left (T : Tx K mg) : FnAt K d_Knowledge_points_left := T.c.def_ 35 (d := d_Knowledge_points_left) (by rfl)
theorem Tx.at_Knowledge_room (T : Tx K mg) : FnAt K d_Knowledge_room := T.c.def_ 36 (d := d_Knowledge_room) (by rfl)
theorem Tx.at_Knowledge_room_in (T : Tx K mg) : FnAt K d_Knowledge_room_in := T.c.def_ 37 (d := d_Knowledge_room_in) (by rfl)
theorem Tx.at_Knowledge_bounds (T : Tx K mg) : FnAt K d_Knowledge_bounds := T.c.def_ 38 (d := d_Knowledge_bounds) (by rfl)
theorem Tx.at_Knowledge_known (T : Tx K mg) : FnAt K d_Knowledge_known := T.c.def_ 39 (d := d_Knowledge_known) (by rfl)
theorem Tx.at_law_number (T : Tx K mg) : FnAt K d_law_number := T.c.def_ 40 (d := d_law_number) (by rfl)
theorem Tx.at_law_take (T : Tx K mg) : FnAt K d_law_take := T.c.def_ 41 (d := d_law_take) (by rfl)
theorem Tx.at_law_pick (T : Tx K mg) : FnAt K d_law_pick := T.c.def_ 42 (d := d_law_pick) (by rfl)
theorem Tx.at_law_tiny (T : Tx K mg) : FnAt K d_law_tiny := T.c.def_ 43 (d := d_law_tiny) (by rfl)
theorem Tx.at_law_all (T : Tx K mg) : FnAt K d_law_all := T.c.def_ 44 (d := d_law_all) (by rfl)
theorem Tx.at_law_points (T : Tx K mg) : FnAt K d_law_points := T.c.def_ 45 (d := d_law_points) (by rfl)
theorem Tx.at_law_point (T : Tx K mg) : FnAt K d_law_point := T.c.def_ 46 (d := d_law_point) (by rfl)
theorem Tx.at_law_box (T : Tx K mg) : FnAt K d_law_box := T.c.def_ 47 (d := d_law_box) (by rfl)
theorem Tx.at_law_prefixes (T : Tx K mg) : FnAt K d_law_prefixes := T.c.def_ 48 (d := d_law_prefixes) (by rfl)
theorem Tx.at_law_facts (T : Tx K mg) : FnAt K d_law_facts := T.c.def_ 49 (d := d_law_facts) (by rfl)
theorem Tx.at_law_clouds (T : Tx K mg) : FnAt K d_law_clouds := T.c.def_ 50 (d := d_law_clouds) (by rfl)
theorem Tx.at_law_sees (T : Tx K mg) : FnAt K d_law_sees := T.c.def_ 51 (d := d_law_sees) (by rfl)
theorem Tx.at_law (T : Tx K mg) : FnAt K d_law := T.c.def_ 52 (d := d_law) (by rfl)
end
end Fc

set_option Elab.async false
set_option linter.all false
set_option maxRecDepth 100000
/-! Rules of our own: a star in a display, xs[i] op= e, a dict whose keys are pairs of a word and a node, d.pop(k) of tuple keys. -/
namespace Fc
open PySem PySem.Spec PyProof.Rows L2

/-! ### a star among arguments or items -/
section
variable {X : Cx} {e : Expr} {es : List Expr} {te : TE} {t : TA} {p : Pos}
theorem star_tup {prog : Program} {w : World} {A : Around} {E : Value → Shared → Prop} {s : Shared} {a : Addr} {its : Array Value} {Q : List Value → Shared → Prop} (ht : IsTup s.heap a its) (hz : its.size ≤ sizeLine)
    (h : ∀ h', (∀ b o, s.heap.get? b = some o → h'.get? b = some o) → Q its.toList { s with heap := h' }) : PySem.W.StarOf (model prog w) A E (.ref a) Q s := by
  obtain ⟨o, ho, hc, n, hd⟩ := ht
  have hT : s.TypeIs (.ref a) "tuple" := ⟨o, ho, hc⟩
  have z : wpAny (model prog w) A (collect (.ref a)) Q E s := by
    refine wpAny_collect_seq (T := "tuple") a (.inr rfl) ho hc hd (fun h' hk => h h' fun b o e => ?_) hz
    exact hk _ _ e
  unfold PySem.W.StarOf notIterableAtAll
  exact wpAny_bind (wpAny_specialOf hT PySem.F.slot_tuple_iter.lookup (wpAny_pure ⟨rfl, z⟩))
/-- *t, then the rest -/
def tStar (K : PySem.W.Frag) (te : TE) (tr : TA) : TA := fun σ H Q => te σ H fun x H1 => ∃ a xs, x = .ref a ∧ SqT K H1 a xs ∧ tr σ H1 fun ys H2 => Q (xs ++ ys) H2
theorem pa_star (ha : PE X e te) (hr : PA X es t) (hs : starEach (.Starred e p :: es) X.env = (true, eval e X.env) :: starEach es X.env := by rfl) : PA X (.Starred e p :: es) (tStar X.K te t) := by
  refine ⟨fun pos pins s σ H Q I h => ?_⟩
  refine PySem.W.items_star (thn (ha.run pins s σ H _ I h) fun u s1 ⟨x, H1, I1, r1, a, xs, ex, hx, q1⟩ => ?_) hs
  subst ex
  cases r1
  obtain ⟨its, rv, ht, hz⟩ := I1.tuple hx
  refine star_tup ht (by rw [List.size_toArray, ← rv.length]; exact hz) fun h' hk => ?_
  have I2 : Inv X pins σ H1 { s1 with heap := h' } := I1.kept (t' := s1.toks) fun b o e => hk b o e
  exact thn (hr.run pos pins _ σ H1 _ I2 q1) fun us s3 ⟨ys, H3, I3, r3, q3⟩ => ⟨xs ++ ys, H3, I3, by simpa using rv.append r3, q3⟩
end

/-! ### xs[i] op= e, a list -/
section
variable {X : Cx}
/-- xs[i], by values, i not negative -/
def tGetL (K : PySem.W.Frag) : V → V → Hp → VK → Prop := fun o i H Q => ∃ p xs j v, o = .ref p ∧ i = .int ((j : Nat) : Int) ∧ SqL K H p xs ∧ xs[j]? = some v ∧ Q v H
theorem get_list : PGet X (tGetL X.K) := by
  intro pins s σ H o i ov iv Q I ro ri h
  obtain ⟨p, xs, j, z, rfl, rfl, hq, he, q⟩ := h
  cases ro
  obtain ⟨t, rfl⟩ := ri
  obtain ⟨its, r, pl, hz⟩ := I.list hq
  obtain ⟨w, ew, rw'⟩ := r.get he
  have hl := r.length
  have hj : j < xs.length := (List.getElem?_eq_some_iff.mp he).1
  refine wpAny_getItem_list pl.isList (by omega) ?_ (by simpa using ew) ⟨z, H, I, rw', q⟩
  have h63 : (sizeLine : Int) < 2 ^ 63 := by rw [sizeLine_eq]; decide
  omega
end
end Fc

set_option Elab.async false
set_option linter.all false
set_option maxRecDepth 100000
/-! A dict whose keys are pairs (word, node), the node a pair of whole numbers. -/
namespace Fc
open PySem PySem.Spec PyProof.Rows L2

/-- the key (word, (length, number)) -/
abbrev WK := Str × Int × Int
def nk (k : WK) : NestedKey := .tup [.text k.1, .tup [.num k.2.1, .num k.2.2]]
theorem nk_inj {a b : WK} (h : nk a = nk b) : a = b := by
  obtain ⟨x, i, j⟩ := a
  obtain ⟨y, k, l⟩ := b
  simp only [nk, NestedKey.tup.injEq, List.cons.injEq, NestedKey.text.injEq, NestedKey.num.injEq, and_true] at h
  obtain ⟨h1, h2, h3⟩ := h
  rw [h1, h2, h3]
/-- a key's own tuples -/
def KeyAt (H : Hp) (a : Addr) (k : WK) : Prop := ∃ b, H a = some (.tup [.str k.1, .ref b]) ∧ H b = some (.tup [.int k.2.1, .int k.2.2])
theorem KeyAt.keeps {H H' : Hp} {a : Addr} {k : WK} (x : KeyAt H a k) (ht : ∀ b ys, H b = some (.tup ys) → H' b = some (.tup ys)) : KeyAt H' a k :=
  let ⟨b, h1, h2⟩ := x; ⟨b, ht _ _ h1, ht _ _ h2⟩
theorem KeyAt.isKey {P : Program} {w : World} {H : Hp} {h : Heap} {a : Addr} {k : WK} (ok : HOk P w H h) (x : KeyAt H a k) : (nestedKind P w).is h (nk k) a := by
  obtain ⟨b, h1, h2⟩ := x
  obtain ⟨_, its, r, o, g1, g2, n, g3⟩ := (show ObjOk P w H h a _ from ok a _ h1)
  obtain ⟨_, its2, r2, o2, g4, g5, n2, g6⟩ := (show ObjOk P w H h b _ from ok b _ h2)
  cases r2 with
  | cons r21 r2 => cases r2 with
    | cons r22 r2 =>
      cases r2
      obtain ⟨t1, rfl⟩ := r21
      obtain ⟨t2, rfl⟩ := r22
      cases r with
      | cons r11 r => cases r with
        | cons r12 r =>
          cases r
          obtain ⟨t0, rfl⟩ := r11
          cases r12
          refine ⟨.tup g1 g2 g3 (.cons (.text _ _) (.cons (.tup g4 g5 g6 (.cons (.int _ _) (.cons (.int _ _) .nil))) .nil)), ?_⟩
          show (nk k).depth ≤ 8
          simp [nk, NestedKey.depth, NestedKey.depthAll]

/-- entries: keys by words, values -/
abbrev KN (H : Hp) : List (WK × V) → List (NestedKey × Addr × Value) → Prop := Paired fun p q => nk p.1 = q.1 ∧ KeyAt H q.2.1 p.1 ∧ RelV p.2 q.2.2
theorem KN.val {H : Hp} {kvs : List (WK × V)} {xs : List (NestedKey × Addr × Value)} (r : KN H kvs xs) (k : WK) : RelO (valV kvs k) ((atKey xs (nk k)).map (·.2)) := by
  induction r with
  | nil => exact True.intro
  | @cons p q ps qs h t ih =>
    obtain ⟨h1, _, h2⟩ := h
    by_cases e : p.1 = k
    · have e' : q.1 = nk k := by rw [← h1, e]
      have b : atKey (q :: qs) (nk k) = some q.2 := by simp [atKey, List.find?_cons, e']
      rw [valV_pos e, b]
      exact h2
    · have e' : ¬ q.1 = nk k := fun z => e (nk_inj (h1.trans z))
      have b : atKey (q :: qs) (nk k) = atKey qs (nk k) := by simp [atKey, List.find?_cons, e']
      rw [valV_neg e, b]
      exact ih
theorem KN.repl {H : Hp} {kvs : List (WK × V)} {xs : List (NestedKey × Addr × Value)} (r : KN H kvs xs) (k : WK) {y : V} {u : Value} (ry : RelV y u) :
    KN H (kvs.map fun kv => if kv.1 = k then (kv.1, y) else kv) (xs.map (putAt (nk k) u)) := by
  induction r with
  | nil => exact .nil
  | @cons p q ps qs h t ih =>
    rw [List.map_cons, List.map_cons]
    refine .cons ?_ ih
    obtain ⟨h1, h2, h3⟩ := h
    unfold putAt
    by_cases e : p.1 = k
    · rw [if_pos e, if_pos (by rw [← h1, e])]
      exact ⟨h1, h2, ry⟩
    · rw [if_neg e, if_neg (fun z => e (nk_inj (h1.trans z)))]
      exact ⟨h1, h2, h3⟩
theorem KN.put {H : Hp} {kvs : List (WK × V)} {xs : List (NestedKey × Addr × Value)} (r : KN H kvs xs) (k : WK) {b : Addr} {y : V} {u : Value} (hb : KeyAt H b k) (ry : RelV y u) :
    KN H (putK kvs k y) (storedH xs (nk k) b u) := by
  have e : (kvs.any fun kv => decide (kv.1 = k)) = (atKey xs (nk k)).isSome := by
    rw [valV_any, (r.val k).isSome_eq, Option.isSome_map]
  unfold putK storedH
  rw [e]
  by_cases q : (atKey xs (nk k)).isSome = true
  · rw [if_pos q, if_pos q]
    exact r.repl k ry
  · rw [if_neg q, if_neg q]
    exact Paired.snoc r ⟨rfl, hb, ry⟩
theorem KN.keeps {H H' : Hp} {kvs : List (WK × V)} {xs : List (NestedKey × Addr × Value)} (r : KN H kvs xs) (ht : ∀ b ys, H b = some (.tup ys) → H' b = some (.tup ys)) : KN H' kvs xs :=
  Paired.mapP r fun _ _ z => ⟨z.1, z.2.1.keeps ht, z.2.2⟩
theorem KN.all {P : Program} {w : World} {H : Hp} {h : Heap} (ok : HOk P w H h) : ∀ {kvs : List (WK × V)} {xs : List (NestedKey × Addr × Value)}, KN H kvs xs → ∀ x ∈ xs, (nestedKind P w).is h x.1 x.2.1 := by
  intro kvs xs r
  induction r with
  | nil => intro x hx; cases hx
  | @cons p q ps qs hq t ih =>
    intro x hx
    rcases List.mem_cons.mp hx with e | hx
    · subst e
      rw [← hq.1]
      exact hq.2.1.isKey ok
    · exact ih x hx

/-- the dict's one object, as it stands -/
def rawO (d : Addr) (ob : Obj) : HO := .ext fun h => h.get? d = some ob
/-- at d stands a dict with such keys (empty: any dict without entries) -/
def ND (P : Program) (w : World) (H : Hp) (d : Addr) (kvs : List (WK × V)) : Prop :=
  (H d = some (.dK []) ∧ kvs = []) ∨ ∃ (ob : Obj) (es : Array DictEntry) (ep : Nat) (xs : List (NestedKey × Addr × Value)), H d = some (rawO d ob) ∧ (d == sysModules) = false ∧ kvs.length ≤ sizeLine ∧
    ob.ExactDict ∧ ob.data = .dict es ep ∧ es.toList = xs.map (entryOfKey (nestedKind P w)) ∧ (xs.map (·.1)).Nodup ∧ KN H kvs xs
section
variable {P : Program} {w : World} {H H' : Hp} {h : Heap} {d : Addr} {kvs : List (WK × V)}
theorem ND.mut (x : ND P w H d kvs) : Mut (H d) := by
  rcases x with ⟨e, _⟩ | ⟨ob, es, ep, xs, e, _⟩
  · rw [e]; exact True.intro
  · rw [e]; exact True.intro
theorem ND.keeps (x : ND P w H d kvs) (hd : ∀ o, H d = some o → H' d = some o) (ht : ∀ b ys, H b = some (.tup ys) → H' b = some (.tup ys)) : ND P w H' d kvs := by
  rcases x with ⟨e, q⟩ | ⟨ob, es, ep, xs, e, y, z, h1, h2, h3, h4, r⟩
  · exact .inl ⟨hd _ e, q⟩
  · exact .inr ⟨ob, es, ep, xs, hd _ e, y, z, h1, h2, h3, h4, r.keeps ht⟩
theorem ND.same (x : ND P w H d kvs) (s : Same H H') : ND P w H' d kvs := x.keeps (fun o e => s _ _ e) fun b ys e => s _ _ e
theorem ND.raw (x : ND P w H d kvs) (ok : HOk P w H h) : kvs.length ≤ sizeLine ∧ (d == sysModules) = false ∧ ∃ xs, KN H kvs xs ∧ h.DictOfH (nestedKind P w) d xs := by
  rcases x with ⟨e, q⟩ | ⟨ob, es, ep, xs, e, y, z, h1, h2, h3, h4, r⟩
  · subst q
    obtain ⟨z, y, vs, rel, o, es, ep, g1, g2, g3, g4, g5, g6⟩ := dk_of ok e
    cases rel
    have e0 : es.toList = [] := by
      cases q : es.toList with
      | nil => rfl
      | cons a l =>
        rw [q] at g5
        cases g5
    exact ⟨z, y, [], .nil, o, es, ep, g1, g2, g3, by rw [e0]; rfl, fun x hx => (by cases hx), .nil⟩
  · obtain ⟨p, _, _⟩ := (show ObjOk P w H h d (rawO d ob) from ok d _ e)
    exact ⟨z, y, xs, r, ob, es, ep, p, h1, h2, h3, KN.all ok r, h4⟩
end
section
variable {X : Cx} {pins : List (Addr × Obj)} {σ : L2.St} {H : Hp} {s : Shared} {d : Addr} {kvs : List (WK × V)}
theorem nested_room {A : Around} (hu : A.units + 64 < cLine) (P : Program) (w : World) : (nestedKind P w).room A.in1 := by
  show A.units + 1 + 8 < cLine
  omega
/-- k not in d -/
def rNotInN (P : Program) (w : World) : R2 := fun x y H Q => ∃ a d k kvs, x = .ref a ∧ y = .ref d ∧ KeyAt H a k ∧ ND P w H d kvs ∧ Q (.bl (!(valV kvs k).isSome)) H
theorem op_notInN (hu : X.A.units + 64 < cLine) : OpR X (compareOp .NotIn) (rNotInN X.prog X.w) := by
  intro pins s σ H x y v u Q I rx ry h
  obtain ⟨a, d, k, kvs, rfl, rfl, hk, hd, q⟩ := h
  cases rx
  cases ry
  obtain ⟨z, y0, xs, r, dd⟩ := hd.raw I.hok
  refine wpAny_notIn_heap (nested_room hu X.prog X.w) (hk.isKey I.hok) y0 dd ?_
  have e := (r.val k).isSome_eq
  rw [Option.isSome_map] at e
  rw [← e]
  exact ⟨.bl _, H, I.tok _, rfl, q⟩
/-- d[k], there -/
def rIxN (P : Program) (w : World) : R2 := fun x y H Q => ∃ a d k kvs v, x = .ref d ∧ y = .ref a ∧ KeyAt H a k ∧ ND P w H d kvs ∧ valV kvs k = some v ∧ Q v H
theorem ix_nested (hu : X.A.units + 64 < cLine) : IxR X (rIxN X.prog X.w) := by
  intro value slice pins s σ H x y v u Q I rx ry h hs
  obtain ⟨a, d, k, kvs, z0, rfl, rfl, hk, hd, hv, q⟩ := h
  cases rx
  cases ry
  obtain ⟨z, y0, xs, r, dd⟩ := hd.raw I.hok
  have e := r.val k
  rw [hv] at e
  obtain ⟨w', hw, rw'⟩ := RelO.some_of e
  obtain ⟨p, hp, hp2⟩ := Option.map_eq_some_iff.mp hw
  refine tail_any dd.typeIs PySem.F.slot_dict_getitem.lookup (wpAny_getItem_heap (nested_room hu X.prog X.w) (hk.isKey I.hok) dd hp ?_) hs
  rw [hp2]
  exact ⟨z0, H, I.tok _, rw', q⟩
/-- d[k] = v -/
def rSetN (P : Program) (w : World) : TSet := fun o i v H Q => ∃ d a k kvs, o = .ref d ∧ i = .ref a ∧ KeyAt H a k ∧ ND P w H d kvs ∧ kvs.length < sizeLine ∧
  ∀ ob, ND P w (upd H d ob) d (putK kvs k v) → Mut (some ob) → Q (upd H d ob)
theorem set_nested (hu : X.A.units + 64 < cLine) : PSet X (rSetN X.prog X.w) := by
  intro pins s σ H o i v ov iv u Q I ro ri rv h
  obtain ⟨d, a, k, kvs, rfl, rfl, hk, hd, hl, q⟩ := h
  cases ro
  cases ri
  obtain ⟨z, y0, xs, r, dd⟩ := hd.raw I.hok
  have hz : xs.length ≤ sizeLine := by rw [← Paired.length r]; exact z
  have hl2 : (putK kvs k v).length ≤ sizeLine := by have := length_putK kvs k v; omega
  refine wpAny_setItem_heap (hsz := hz) (nested_room hu X.prog X.w) (hk.isKey I.hok) dd fun h' dd' hs => ?_
  obtain ⟨ob, es, ep, g1, g2, g3, g4, _, g5⟩ := dd'
  have hne : ∀ c ys, H c = some (.tup ys) → c ≠ d := fun c ys ec e => by
    subst e
    have m := hd.mut
    rw [ec] at m
    exact m
  have kept : ∀ c ys, H c = some (.tup ys) → upd H d (rawO d ob) c = some (.tup ys) := fun c ys ec => by
    rw [upd_ne (hne c ys ec)]
    exact ec
  have I2 : Inv X pins σ (upd H d (rawO d ob)) { s with heap := h', toks := s.toks + (nestedKind X.prog X.w).draws (nk k) } :=
    d_write I hd.mut hs ⟨ob, g1⟩ ⟨g1, ⟨ob, g1⟩, fun h1 h2 e1 e2 => e2 _ e1⟩
  refine ⟨_, I2, q _ (.inr ⟨ob, es, ep, _, upd_same, y0, hl2, g2, g3, g4, g5, (r.put k hk rv).keeps kept⟩) True.intro⟩
end
end Fc

set_option Elab.async false
set_option linter.all false
set_option maxRecDepth 100000
/-! sorted of nodes (a tuple of pairs of whole numbers; a dict with such keys), min of rows. -/
namespace Fc
open PySem PySem.Spec PyProof.Rows L2

/-- a tracked pair of whole numbers -/
abbrev PairAt (H : Hp) (a : Addr) (p : Int × Int) : Prop := H a = some (.tup [.int p.1, .int p.2])
def pLe (p q : Int × Int) : Bool := decide (p.1 < q.1 ∨ (p.1 = q.1 ∧ p.2 ≤ q.2))
def encP (b : Addr × Int × Int) : PyData := .tuple [.int b.2.1, .int b.2.2]
theorem encP_alike (bs : List (Addr × Int × Int)) : PySem.W.AllAlike (bs.map encP) := PySem.W.AllAlike.of fun b b' => by
  simp [encP, PySem.W.alike, PySem.W.alikeAll]
theorem encP_sortable (bs : List (Addr × Int × Int)) : PySem.W.Sortable (bs.map encP) := PySem.W.Sortable.tuples fun b => ⟨_, _, rfl⟩
theorem encP_depth (b : Addr × Int × Int) : (encP b).depth ≤ 1 := by
  simp [encP, PyData.depth, PyData.depthAll]
theorem encP_le : PySem.W.dataLe false encP = fun a b => pLe a.2 b.2 := by
  refine Eq.trans (PySem.W.dataLe_ii (β := Addr × Int × Int) (fun b => b.2.1) fun b => b.2.2) ?_
  rfl
section
variable {X : Cx} {pins : List (Addr × Obj)} {σ : L2.St} {H : Hp} {s : Shared}
/-- a tracked pair reads as data -/
theorem pair_reads {h' : Heap} {a : Addr} {p : Int × Int} (I : Inv X pins σ H s) (e : PairAt H a p) (k : ∀ b o, s.heap.get? b = some o → h'.get? b = some o) : ∃ as, Reads h' (.ref a) (encP (a, p)) as ∧ as = [] := by
  obtain ⟨its, rv, ⟨o, ho, hc, n, hd⟩, _⟩ := I.tuple (SqT.of e)
  cases rv with
  | cons r1 rv => cases rv with
    | cons r2 rv =>
      cases rv
      obtain ⟨t1, rfl⟩ := r1
      obtain ⟨t2, rfl⟩ := r2
      exact ⟨_, Reads.tuple (k _ _ ho) hc hd (ReadsAll.cons (Reads.int _ _) (ReadsAll.cons (Reads.int _ _) ReadsAll.nil)), rfl⟩
/-- the new list, sorted -/
theorem sort_pairs {bs : List (Addr × Int × Int)} {h' : Heap} {tk : Nat} {Q : Value → Shared → Prop} (hu : X.A.units + 64 < cLine) (I : Inv X pins σ H s) (k : ∀ b o, s.heap.get? b = some o → h'.get? b = some o)
    (hp : ∀ b ∈ bs, PairAt H b.1 b.2) (hz : bs.length ≤ sizeLine)
    (q : ∀ s', Inv X pins σ (upd H h'.objs.size (.lst ((bs.mergeSort fun a b => pLe a.2 b.2).map fun b => V.ref b.1))) s' → H h'.objs.size = none → Q .none s') :
    wpAny (model X.prog X.w) X.A.in1 (call (.builtin "list.sort") [.ref h'.objs.size]) Q X.xe { s with heap := h'.push (PyProof.Rows.seqObj "list" (bs.map fun b => Value.ref b.1).toArray 0), toks := tk } := by
  have hoL : (h'.push (PyProof.Rows.seqObj "list" (bs.map fun b => Value.ref b.1).toArray 0)).get? h'.objs.size = some (PyProof.Rows.seqObj "list" (bs.map fun b => Value.ref b.1).toArray 0) := Heap.get?_push_size _ rfl
  have I1 : Inv X pins σ H { s with heap := h', toks := tk } := I.kept k
  have hf : H h'.objs.size = none := I1.hok.fresh (Nat.le_refl _)
  have each : ∀ (l : List (Addr × Int × Int)), (∀ b ∈ l, b ∈ bs) → PySem.W.EachIs (fun v b => v = Value.ref b.1) (l.map fun b => Value.ref b.1) l ∧
      PySem.W.EachIs (fun v b => ∃ as, Reads (h'.push (PyProof.Rows.seqObj "list" (bs.map fun b => Value.ref b.1).toArray 0)) v (encP b) as ∧ h'.objs.size ∉ as) (l.map fun b => Value.ref b.1) l := by
    intro l
    induction l with
    | nil => exact fun _ => ⟨.nil, .nil⟩
    | cons b l ih =>
      intro hl
      obtain ⟨i1, i2⟩ := ih fun c hc => hl c (List.mem_cons_of_mem _ hc)
      obtain ⟨as, r, e⟩ := pair_reads I1 (hp b (hl b (List.mem_cons_self ..))) (h' := h'.push (PyProof.Rows.seqObj "list" (bs.map fun b => Value.ref b.1).toArray 0)) fun c o q => Heap.get?_push_of_some _ q
      exact ⟨.cons rfl i1, .cons ⟨as, r, by rw [e]; exact fun z => nomatch z⟩ i2⟩
  obtain ⟨e1, e2⟩ := each bs fun b hb => hb
  refine PySem.W.list_sort_data (s := { s with heap := h'.push (PyProof.Rows.seqObj "list" (bs.map fun b => Value.ref b.1).toArray 0), toks := tk }) hoL e1 e2 (encP_alike bs) (encP_sortable bs) hz (fun b _ => ?_) fun out hl he => ?_
  · have d := encP_depth b
    show X.A.units + 1 + 1 + _ < _
    omega
  · rw [encP_le] at he
    have eo : ∀ {o : List Value} {l : List (Addr × Int × Int)}, PySem.W.EachIs (fun v b => v = Value.ref b.1) o l → Vals (l.map fun b => V.ref b.1) o := by
      intro o l r
      induction r with
      | nil => exact .nil
      | cons h t ih => exact .cons h ih
    have rv := eo he
    obtain ⟨e', he'⟩ := PyProof.Rows.sortedHeap_at (vs := bs.map fun b => Value.ref b.1) (out := List.toArray out) hoL
    have hlen : ((bs.mergeSort fun a b => pLe a.2 b.2).map fun b => V.ref b.1).length ≤ sizeLine := by
      rw [List.length_map, List.length_mergeSort]
      exact hz
    refine q _ (I1.laid (t' := tk) (a := h'.objs.size) (o := .lst ((bs.mergeSort fun a b => pLe a.2 b.2).map fun b => V.ref b.1)) (fun b u e => ?_) (Nat.le_refl _) ⟨hlen, out, e', rv, he'⟩) hf
    have hb : b < h'.objs.size := Heap.lt_size e
    rw [PyProof.Rows.sortedHeap_old (Nat.ne_of_lt hb) (by rw [Heap.size_push]; exact Nat.lt_succ_of_lt hb)]
    exact Heap.get?_push_of_some _ e

/-- rows of tracked pairs, by their nodes -/
def PairsAt (H : Hp) : List Addr → List (Int × Int) → Prop := Paired (PairAt H)
theorem zip_pairs {H : Hp} : ∀ {as : List Addr} {ps : List (Int × Int)}, PairsAt H as ps → ∃ bs : List (Addr × Int × Int), bs.map (·.1) = as ∧ bs.map (·.2) = ps ∧ ∀ b ∈ bs, PairAt H b.1 b.2
  | _, _, .nil => ⟨[], rfl, rfl, fun b hb => by cases hb⟩
  | _, _, .cons (a := a) (b := p) h t => by
    obtain ⟨bs, e1, e2, h3⟩ := zip_pairs t
    refine ⟨(a, p) :: bs, by rw [List.map_cons, e1], by rw [List.map_cons, e2], fun b hb => ?_⟩
    rcases List.mem_cons.mp hb with e | hb
    · rw [e]; exact h
    · exact h3 b hb
theorem pairs_zip {H : Hp} : ∀ {bs : List (Addr × Int × Int)}, (∀ b ∈ bs, PairAt H b.1 b.2) → PairsAt H (bs.map (·.1)) (bs.map (·.2))
  | [], _ => .nil
  | b :: bs, h => .cons (h b (List.mem_cons_self ..)) (pairs_zip fun c hc => h c (List.mem_cons_of_mem _ hc))
theorem sort_map (bs : List (Addr × Int × Int)) : (bs.mergeSort fun a b => pLe a.2 b.2).map (·.2) = (bs.map (·.2)).mergeSort pLe :=
  List.map_mergeSort fun _ _ _ _ => rfl
/-- sorted(t), t a tuple of nodes -/
def rSortTup (K : PySem.W.Frag) : List V → Hp → VK → Prop := fun vs H Q => ∃ (a : Addr) (as : List Addr) (ps : List (Int × Int)), vs = [.ref a] ∧ SqT K H a (as.map V.ref) ∧ PairsAt H as ps ∧
  ∀ (as' : List Addr) (p : Addr), PairsAt H as' (ps.mergeSort pLe) → H p = none → Q (.ref p) (upd H p (.lst (as'.map V.ref)))
theorem vals_refs : ∀ {as : List Addr} {us : List Value}, Vals (as.map V.ref) us → us = as.map Value.ref
  | [], _, .nil => rfl
  | a :: as, _, .cons r t => by
    rw [List.map_cons, vals_refs t]
    cases r
    rfl
theorem cr_sortTup (hu : X.A.units + 64 < cLine) : CallR X (.builtin "sorted") (rSortTup X.K) := by
  intro pins s σ H xs us Q I r q
  obtain ⟨a, as, ps, rfl, ha, hp, q⟩ := q
  obtain ⟨u, rfl, rx⟩ := vals1 r
  cases rx
  obtain ⟨its, rv, ⟨o, ho, hc, n, hd⟩, hz⟩ := I.tuple ha
  obtain ⟨bs, b1, b2, b3⟩ := zip_pairs hp
  have ei : its = bs.map fun b => Value.ref b.1 := by
    have e := vals_refs rv
    rw [e, ← b1, List.map_map]
    rfl
  subst ei
  have hz' : bs.length ≤ sizeLine := by
    rw [List.length_map, ← b1, List.length_map] at hz
    exact hz
  refine Calls.call_function_entry PyProof.Rows.kind_sorted PyProof.Rows.plain_sorted PyProof.Rows.entry_sorted (PyProof.Rows.args_sorted1 _) ?_
  unfold Builtin.«sorted»
  refine wpAny_bind (m := checkCount "sorted" 1 1 _) (wpAny_pure ?_)
  refine wpAny_bind (wpAny_collect_seq (T := "tuple") a (.inr rfl) ho hc hd (fun h' hk => ?_) (by rw [List.size_toArray, List.length_map]; exact hz'))
  refine wpAny_bind (wpAny_newList ?_ (by rw [List.length_map]; exact hz'))
  refine wpAny_bind (wpAny_holding (sort_pairs (s := s) (tk := s.toks) hu I hk b3 hz' fun s' I' hf => ?_))
  refine wpAny_pure ⟨_, rfl, .ref h'.objs.size, _, I', rfl, ?_⟩
  have e := q ((bs.mergeSort fun a b => pLe a.2 b.2).map (·.1)) h'.objs.size ?_ hf
  · rw [List.map_map] at e
    exact e
  · rw [← b2, ← sort_map]
    refine pairs_zip fun b hb => b3 b ?_
    exact (List.mergeSort_perm bs _).mem_iff.mp hb
end
end Fc

set_option Elab.async false
set_option linter.all false
set_option maxRecDepth 100000
namespace Fc
open PySem PySem.Spec PyProof.Rows L2
/-- the key of a node -/
abbrev kP (p : Int × Int) : List Key := [.inl p.1, .inl p.2]
section
variable {X : Cx} {pins : List (Addr × Obj)} {σ : L2.St} {H : Hp} {s : Shared}
theorem kt_zip {H : Hp} : ∀ {kvs : List (List Key × V)} {xs : List (List Key × Addr × Value)} {ps : List (Int × Int)}, KT H kvs xs → kvs.map (·.1) = ps.map kP →
    ∃ bs : List (Addr × Int × Int), bs.map (·.1) = xs.map (·.2.1) ∧ bs.map (·.2) = ps ∧ ∀ b ∈ bs, PairAt H b.1 b.2
  | _, _, [], .nil, _ => ⟨[], rfl, rfl, fun b hb => by cases hb⟩
  | _, _, _ :: _, .nil, e => by simp at e
  | _, _, [], .cons _ _, e => by simp at e
  | _, _, p :: ps, .cons (a := kv) (b := x) h t, e => by
    rw [List.map_cons, List.map_cons] at e
    injection e with e1 e2
    obtain ⟨bs, b1, b2, b3⟩ := kt_zip t e2
    refine ⟨(x.2.1, p) :: bs, by rw [List.map_cons, List.map_cons, b1], by rw [List.map_cons, b2], fun b hb => ?_⟩
    rcases List.mem_cons.mp hb with q | hb
    · rw [q]
      have h2 := h.2.1
      rw [e1] at h2
      exact h2
    · exact b3 b hb
/-- sorted(d), d a dict whose keys are nodes -/
def rSortDict : List V → Hp → VK → Prop := fun vs H Q => ∃ (a : Addr) (kvs : List (List Key × V)) (ps : List (Int × Int)), vs = [.ref a] ∧ Rd H a (.dT kvs) ∧ kvs.map (·.1) = ps.map kP ∧
  ∀ (as' : List Addr) (p : Addr), PairsAt H as' (ps.mergeSort pLe) → H p = none → Q (.ref p) (upd H p (.lst (as'.map V.ref)))
theorem cr_sortDict (hc : X.calm = true) (hu : X.A.units + 64 < cLine) : CallR X (.builtin "sorted") rSortDict := by
  intro pins s σ H xs us Q I r q
  obtain ⟨a, kvs, ps, rfl, ha, hk, q⟩ := q
  obtain ⟨u, rfl, rx⟩ := vals1 r
  cases rx
  obtain ⟨z, lo, xs', rel, o, es, ep, h1, h2, h3, h4, _, h5⟩ := dt_rd I.hok ha
  obtain ⟨bs, b1, b2, b3⟩ := kt_zip rel hk
  have hlx : xs'.length = kvs.length := (Paired.length rel).symm
  have hes : es.size = xs'.length := by rw [← Array.length_toList, h4, List.length_map]
  have hlb : bs.length = xs'.length := by
    have e := congrArg List.length b1
    rw [List.length_map, List.length_map] at e
    exact e
  have hz' : bs.length ≤ sizeLine := by rw [hlb, hlx]; exact z
  refine Calls.call_function_entry PyProof.Rows.kind_sorted PyProof.Rows.plain_sorted PyProof.Rows.entry_sorted (PyProof.Rows.args_sorted1 _) ?_
  unfold Builtin.«sorted»
  refine wpAny_bind (m := checkCount "sorted" 1 1 _) (wpAny_pure ?_)
  refine wpAny_bind (PySem.W.kdu_collect (A := X.A.in1) (PySem.KdlSrc.rawDict (es := es) (ep := ep) lo) (I.ok.hd hc) (show s.heap.DictRaw a es ep from ⟨o, h1, h2, h3⟩) (by rw [hes, hlx]; exact z) fun h' tk acc hk' hacc => ?_)
  have ea : acc.toList = bs.map fun b => Value.ref b.1 := by
    refine List.ext_getElem? fun j => ?_
    rw [List.getElem?_map, Array.getElem?_toList]
    by_cases hj : j < acc.size
    · obtain ⟨v, ev⟩ : ∃ v, acc[j]? = some v := ⟨acc[j], by simp [hj]⟩
      obtain ⟨hi, e1⟩ := hacc.2 j v ev
      rw [ev]
      have e2 : es.toList[j]? = some es[j] := by rw [Array.getElem?_toList]; simp [hi]
      rw [h4, List.getElem?_map] at e2
      cases e3 : xs'[j]? with
      | none => rw [e3] at e2; cases e2
      | some x =>
        rw [e3] at e2
        have e4 : entryOfKey (tupleKind (mixKind X.prog X.w)) x = es[j] := Option.some.inj e2
        have e5 : (bs.map (·.1))[j]? = some x.2.1 := by rw [b1, List.getElem?_map, e3]; rfl
        rw [List.getElem?_map] at e5
        cases e6 : bs[j]? with
        | none => rw [e6] at e5; cases e5
        | some b =>
          rw [e6] at e5
          have e7 : b.1 = x.2.1 := Option.some.inj e5
          rw [e1, ← e4, Option.map_some, e7]
          rfl
    · have n1 : acc[j]? = none := by simp; omega
      have n2 : bs[j]? = none := by
        have := hacc.1
        rw [List.getElem?_eq_none_iff]
        omega
      rw [n1, n2]
      rfl
  rw [ea]
  refine wpAny_bind (wpAny_newList ?_ (by rw [List.length_map]; exact hz'))
  refine wpAny_bind (wpAny_holding (sort_pairs (s := s) (tk := tk) hu I hk' b3 hz' fun s' I' hf => ?_))
  refine wpAny_pure ⟨_, rfl, .ref h'.objs.size, _, I', rfl, ?_⟩
  have e := q ((bs.mergeSort fun a b => pLe a.2 b.2).map (·.1)) h'.objs.size ?_ hf
  · rw [List.map_map] at e
    exact e
  · rw [← b2, ← sort_map]
    refine pairs_zip fun b hb => b3 b ?_
    exact (List.mergeSort_perm bs _).mem_iff.mp hb
end
end Fc

set_option Elab.async false
set_option linter.all false
set_option maxRecDepth 100000
namespace Fc
open PySem PySem.Spec PyProof.Rows L2
/-! ### the least of some data -/
theorem dlt_trans {a b c : PyData} (h : PySem.W.dataLt a b = true) (k : PySem.W.dataLt b c = true) : PySem.W.dataLt a c = true := PyProof.Rows.lex_trans _ _ _ h k
theorem dlt_irrefl (a : PyData) : PySem.W.dataLt a a = false := PyProof.Rows.lex_irrefl _
theorem minD_mem : ∀ (xs : List PyData) (x : PyData), PySem.W.minD x xs = x ∨ PySem.W.minD x xs ∈ xs
  | [], x => .inl rfl
  | y :: ys, x => by
    show PySem.W.minD (if PySem.W.dataLt y x then y else x) ys = x ∨ _
    rcases minD_mem ys (if PySem.W.dataLt y x then y else x) with e | e
    · by_cases q : PySem.W.dataLt y x = true
      · rw [if_pos q] at e ⊢
        refine .inr ?_
        show PySem.W.minD (if PySem.W.dataLt y x then y else x) ys ∈ _
        rw [if_pos q, e]
        exact List.mem_cons_self ..
      · rw [if_neg q] at e ⊢
        exact .inl e
    · refine .inr ?_
      show PySem.W.minD (if PySem.W.dataLt y x then y else x) ys ∈ _
      exact List.mem_cons_of_mem _ e
theorem minD_le : ∀ (xs : List PyData) (x : PyData), (∀ e, PySem.W.dataLt e x = true → PySem.W.dataLt e (PySem.W.minD x xs) = true → True) ∧ PySem.W.dataLt x (PySem.W.minD x xs) = false ∧ ∀ e ∈ xs, PySem.W.dataLt e (PySem.W.minD x xs) = false
  | [], x => ⟨fun _ _ _ => trivial, dlt_irrefl x, fun e he => by cases he⟩
  | y :: ys, x => by
    refine ⟨fun _ _ _ => trivial, ?_, ?_⟩
    · show PySem.W.dataLt x (PySem.W.minD (if PySem.W.dataLt y x then y else x) ys) = false
      by_cases q : PySem.W.dataLt y x = true
      · rw [if_pos q]
        have h := (minD_le ys y).2.1
        cases e : PySem.W.dataLt x (PySem.W.minD y ys) with
        | false => rfl
        | true => rw [dlt_trans q e] at h; cases h
      · rw [if_neg q]
        exact (minD_le ys x).2.1
    · intro e he
      show PySem.W.dataLt e (PySem.W.minD (if PySem.W.dataLt y x then y else x) ys) = false
      rcases List.mem_cons.mp he with rfl | he
      · by_cases q : PySem.W.dataLt e x = true
        · rw [if_pos q]
          exact (minD_le ys e).2.1
        · rw [if_neg q]
          have h := (minD_le ys x).2.1
          have q' : PySem.W.dataLt e x = false := by simpa using q
          cases e1 : PySem.W.dataLt e (PySem.W.minD x ys) with
          | false => rfl
          | true =>
            rcases PyProof.Rows.lex_negTrans _ (PySem.W.keyToks x) _ (show PyProof.Rows.lexLt PyProof.Rows.itemOrd (PySem.W.keyToks e) (PySem.W.keyToks (PySem.W.minD x ys)) = true from e1) with z | z
            · have z' : PySem.W.dataLt e x = true := z
              rw [z'] at q'
              cases q'
            · have z' : PySem.W.dataLt x (PySem.W.minD x ys) = true := z
              rw [z'] at h
              cases h
      · exact (minD_le ys _).2.2 e he
section
variable {X : Cx}
theorem dpAll_get {K : PySem.W.Frag} {H : Hp} : ∀ {xs : List V} {ds : List PyData} {i : Nat} {v : V}, DpAll K H xs ds → xs[i]? = some v → ∃ d, ds[i]? = some d ∧ Dp K H v d
  | _, _, _, _, .nil, e => by simp at e
  | _, _, 0, _, .cons r _, e => by simp at e; subst e; exact ⟨_, rfl, r⟩
  | _, _, i + 1, v, .cons _ t, e => by
    obtain ⟨d, h1, h2⟩ := dpAll_get (i := i) (v := v) t (by simpa using e)
    exact ⟨d, by simpa using h1, h2⟩
theorem dpAll_len {K : PySem.W.Frag} {H : Hp} : ∀ {xs : List V} {ds : List PyData}, DpAll K H xs ds → xs.length = ds.length
  | _, _, .nil => rfl
  | _, _, .cons _ t => by rw [List.length_cons, List.length_cons, dpAll_len t]
/-- min(l), l a list of alike data: one of the items, none is less -/
def rMinD (K : PySem.W.Frag) : List V → Hp → VK → Prop := fun vs H Q => ∃ (a : Addr) (xs : List V) (d : PyData) (ds : List PyData), vs = [.ref a] ∧ SqL K H a xs ∧ DpAll K H xs (d :: ds) ∧ PySem.W.AlikeAll (d :: ds) ∧ PyData.depthAll (d :: ds) ≤ 20 ∧
  ∀ (i : Nat) (v : V) (m : PyData), xs[i]? = some v → (d :: ds)[i]? = some m → (∀ e ∈ d :: ds, PySem.W.dataLt e m = false) → Q v H
theorem cr_PySem.W.minD (hc : X.calm = true) (hu : X.A.units + 64 < cLine) : CallR X (.builtin "min") (rMinD X.K) := by
  intro pins s σ H xs us Q I r q
  obtain ⟨a, ys, d, ds, rfl, ha, hd, hal, hdp, q⟩ := q
  obtain ⟨u, rfl, rx⟩ := vals1 r
  cases rx
  obtain ⟨its, rv, pl, hz⟩ := I.list ha
  obtain ⟨as, hr⟩ := Dp.readsAll I (d :: ds) ys its hd rv
  refine PySem.W.min_list_data (I.ok.hd hc) pl.isList (by simpa using hr) hal (by omega) fun i v h' tk bs hv hm hk => ?_
  have hv' : its[i]? = some v := by simpa using hv
  have hi : i < ys.length := by rw [rv.length]; exact (List.getElem?_eq_some_iff.mp hv').1
  obtain ⟨y, ey⟩ : ∃ y, ys[i]? = some y := ⟨ys[i], by simp [hi]⟩
  obtain ⟨v2, ev2, ry⟩ := rv.get ey
  rw [hv'] at ev2
  cases ev2
  obtain ⟨m, em, dm⟩ := dpAll_get hd ey
  obtain ⟨as2, hm2⟩ := Dp.reads I m y v dm ry
  have mm : PySem.W.minD d ds ∈ d :: ds := by
    rcases minD_mem ds d with e | e
    · rw [e]; exact List.mem_cons_self ..
    · exact List.mem_cons_of_mem _ e
  have hmm : m ∈ d :: ds := List.mem_of_getElem? em
  have e : m = PySem.W.minD d ds := PySem.W.alike_unique m (PySem.W.minD d ds) v as2 bs (hal.1 _ hmm _ mm) (PyProof.Rows.Reads.keeps hk hm2) hm
  refine ⟨y, H, I.kept hk, ry, q i y m ey em ?_⟩
  rw [e]
  intro x hx
  rcases List.mem_cons.mp hx with rfl | hx
  · exact (minD_le ds x).2.1
  · exact (minD_le ds d).2.2 x hx
end
end Fc

set_option Elab.async false
set_option linter.all false
set_option maxRecDepth 100000
namespace Fc
open PySem PySem.Spec PyProof.Rows L2
/-! ### dict(d), d with keys that are nodes -/
section
variable {prog : Program} {w : World} {A : Around} {E : Value → Shared → Prop} {s : Shared} {K : Type} [DecidableEq K] {knd : HeapKind prog w K}
theorem dict_of {o : Addr} {more : List (K × Addr × Value)} {Q : Value → Shared → Prop} (hu : knd.room A.in1.in1) (hoS : (o == sysModules) = false) (ho : s.heap.DictOfH knd o more) (hty : ∀ x ∈ more, s.TypeIs (.ref x.2.1) "tuple")
    (hap : (more.map fun x => knd.hash x.1).Nodup) (hsz : more.length ≤ sizeLine) (hst : ∀ ob, ∀ x ∈ more, knd.is (s.heap.push ob) x.1 x.2.1)
    (h : ∀ h', h'.DictOfH knd s.heap.objs.size more → Heap.SameBut s.heap.objs.size (s.heap.push { cls := .type "dict", data := .dict #[] }) h' → Q (.ref s.heap.objs.size) { s with heap := h' }) :
    wpAny (model prog w) A (call (.type "dict") [.ref o]) Q E s := by
  refine callType_codes (Q₁ := fun obj s₁ => obj = .ref s.heap.objs.size ∧ s₁ = { s with heap := s.heap.push { cls := .type "dict", data := .dict #[] } }) F.kt_called_dict (F.kt_typeCall_dict_1 _) F.entry_dict_init (kt_code_dict_new _ ⟨rfl, rfl⟩) ?_
  rintro obj s₁ ⟨rfl, rfl⟩
  have n1 : (s.heap.push { cls := .type "dict", data := .dict #[] }).DictOfH knd s.heap.objs.size [] := Heap.DictOfH.new s.heap
  obtain ⟨oo, es, ep, g1, g2, g3, g4, g5, g6⟩ := id ho
  have n2 : (s.heap.push { cls := .type "dict", data := .dict #[] }).DictOfH knd o more := ⟨oo, es, ep, Heap.get?_push_of_some _ g1, g2, g3, g4, hst _, g6⟩
  have ne : s.heap.objs.size ≠ o := fun e => Nat.lt_irrefl _ (e ▸ Heap.lt_size g1)
  refine ⟨n1.typeIs, F.args_dict_init_2 _ _, ?_⟩
  unfold Builtin.«dict.__init__»
  refine wpAny_bind ?_
  unfold Builtin.Dict.selfAndRest
  refine wpAny_bind (wpAny_notOrdered_dict n1.typeIs ?_)
  show wpAny _ _ (pure (s.heap.objs.size, [Value.ref o])) _ _ _
  refine wpAny_pure ?_
  refine updateFrom_dictH (s := { s with heap := s.heap.push { cls := .type "dict", data := .dict #[] } }) .none hu ne hoS n1 n2 (.inr ⟨fun x hx => ?_, hap⟩) (by simpa using hsz) fun h' d1 _ hs => ?_
  · obtain ⟨ob, e1, e2⟩ := hty x hx
    exact ⟨ob, Heap.get?_push_of_some _ e1, e2⟩
  · rw [storedAllH_nil_of_nodup more g6] at d1
    exact ⟨rfl, h h' d1 hs⟩
end
section
variable {X : Cx}
/-- the hash of a node -/
def hashP (p : Int × Int) : Int := reduceHash (Builtin.Tuple.tupleHashOf [hashInt p.1, hashInt p.2])
theorem hashP_eq (P : Program) (w : World) (p : Int × Int) : (tupleKind (mixKind P w)).hash (kP p) = hashP p := rfl
def rDictT : List V → Hp → VK → Prop := fun xs H Q => ∃ (a : Addr) (kvs : List (List Key × V)) (ps : List (Int × Int)), xs = [.ref a] ∧ Rd H a (.dT kvs) ∧ kvs.map (·.1) = ps.map kP ∧ (ps.map hashP).Nodup ∧
  ∀ p, H p = none → Q (.ref p) (upd H p (.dT kvs))
theorem call_dictT (hu : X.A.units + 64 < cLine) : CallR X (.type "dict") rDictT := by
  intro pins s σ H xs us Q I r q
  obtain ⟨a, kvs, ps, rfl, hd, hk, hn, q⟩ := q
  obtain ⟨u, rfl, rx⟩ := vals1 r
  cases rx
  obtain ⟨z, lo, xs', rel, dd⟩ := dt_rd I.hok hd
  have hl : xs'.length ≤ sizeLine := by rw [← Paired.length rel]; exact z
  have hm : (s.heap.objs.size == sysModules) = false := beq_eq_false_iff_ne.mpr (Nat.ne_of_gt I.big)
  have hf : H s.heap.objs.size = none := I.hok.fresh (Nat.le_refl _)
  have keys : ∀ {l : List (List Key × V)} {m : List (List Key × Addr × Value)}, KT H l m → m.map (·.1) = l.map (·.1) := by
    intro l m t
    induction t with
    | nil => rfl
    | cons h t ih => rw [List.map_cons, List.map_cons, ih, h.1]
  have hash : (xs'.map fun x => (tupleKind (mixKind X.prog X.w)).hash x.1) = ps.map hashP := by
    have e : (xs'.map (·.1)).map (tupleKind (mixKind X.prog X.w)).hash = (ps.map kP).map (tupleKind (mixKind X.prog X.w)).hash := by rw [keys rel, hk]
    rw [List.map_map, List.map_map] at e
    exact e
  obtain ⟨o, es, ep, g1, g2, g3, g4, g5, g6⟩ := id dd
  refine dict_of (knd := tupleKind (mixKind X.prog X.w)) (show X.A.units + 1 + 1 < cLine by omega) lo dd (fun x hx => ?_) (by rw [hash]; exact hn) hl (fun ob x hx => ?_) fun h' d' hs => ?_
  · exact IsTupleKey.typeIs (g5 x hx)
  · obtain ⟨ox, its, n, e1, e2, e3, e4⟩ := g5 x hx
    exact ⟨ox, its, n, Heap.get?_push_of_some _ e1, e2, e3, e4⟩
  · obtain ⟨o', es', ep', k1, k2, k3, k4, k5, k6⟩ := d'
    refine ⟨.ref s.heap.objs.size, upd H s.heap.objs.size (.dT kvs), I.laid (t' := s.toks) (fun b u e => (hs.2 b (Nat.ne_of_lt (Heap.lt_size e))).trans (Heap.get?_push_of_some _ e)) (Nat.le_refl _) ?_, rfl, q _ hf⟩
    refine ⟨z, hm, xs', rel.keeps fun b ys e => ?_, o', es', ep', k1, k2, k3, k4, k6⟩
    rw [upd_ne (ne_of_none e hf)]
    exact e

/-! ### d.pop(k), there -/
def rPop1T : V → List V → Hp → VK → Prop := fun x xs H Q => ∃ (a : Addr) (kvs : List (List L2.Key × V)) (k : List L2.Key) (b : Addr) (v : V), x = .ref a ∧ xs = [.ref b] ∧ H a = some (.dT kvs) ∧ H b = some (.tup (k.map kV)) ∧
  valV kvs k = some v ∧ Q v (upd H a (.dT (dropK kvs k)))
theorem drop_eq {K : Type} [DecidableEq K] (xs : List (K × Addr × Value)) (k : K) : withoutH xs k = DT.dropH xs k := by
  unfold withoutH DT.dropH
  rfl
theorem mt_popT1 (hu : X.A.units + 64 < cLine) : MtR X "dict.pop" rPop1T := by
  intro pins s σ H x xs v us Q I rx rxs h
  obtain ⟨a, kvs, k, b, v0, rfl, rfl, ha, hb, hv, q⟩ := h
  cases rx
  obtain ⟨u1, rfl, r1⟩ := vals1 rxs
  cases r1
  obtain ⟨z, hd, xs', rel, dd⟩ := dt_of I.hok ha
  have hz : xs'.length ≤ sizeLine := by rw [← Paired.length rel]; exact z
  have r := rel.val k
  rw [hv] at r
  obtain ⟨w', hw, rw'⟩ := RelO.some_of r
  obtain ⟨p, hp, hp2⟩ := Option.map_eq_some_iff.mp hw
  refine call_pop_heap (hsz := hz) (more := []) (.inl rfl) (PySem.F.args_dict_pop_2 _ _) (tupleKind_room_in1 (by omega)) (key_of I.hok hb) hd dd hp fun h' d' hs => ?_
  rw [drop_eq] at d'
  obtain ⟨o, es, ep, g1, g2, g3, g4, _, g5⟩ := d'
  refine ⟨v0, upd H a (.dT (dropK kvs k)), d_write I (by rw [ha]; exact True.intro) hs ⟨o, g1⟩ ⟨Nat.le_trans (dropK_le kvs k) z, hd, _, (L2.DX.KT_drop k rel).keeps (fun c ys ec => ?_), o, es, ep, g1, g2, g3, g4, g5⟩, by rw [← hp2] at rw'; exact rw', q⟩
  rw [upd_ne (ne_of ec ha (fun z => nomatch z))]
  exact ec
end
end Fc

set_option Elab.async false
set_option linter.all false
set_option maxRecDepth 100000
namespace Fc
open PySem PySem.Spec PyProof.Rows L2
/-! ### for k, v in d.items(), d locked, its keys nodes (tuples) -/
section
variable {X : Cx} {pins : List (Addr × Obj)} {σ : L2.St} {H : Hp} {s : Shared} {d : Addr} {o : Obj}
theorem frzItems {kvs : List (List Key × V)} (I : Inv X pins σ H s) (h : H d = some (.frz o (.dT kvs))) :
    (d == sysModules) = false ∧ s.heap.get? d = some o ∧ o.ExactDict ∧ ∃ (es : Array DictEntry) (ep : Nat), o.data = .dict es ep ∧ es.size = kvs.length ∧
      ∀ (i : Nat) (hi : i < es.size) (k : List Key) (v : V), kvs[i]? = some (k, v) → ∃ q : Addr, es[i].key = .ref q ∧ H q = some (.tup (k.map kV)) ∧ RelV v es[i].val := by
  obtain ⟨hd, z, hs, xs, pr, o', es, ep, ho, hx, hdt, he, _⟩ := I.hok d _ h
  rw [hd] at ho
  cases ho
  have l1 : es.size = xs.length := size_of_entries he
  have l2 : kvs.length = xs.length := Paired.length pr
  refine ⟨hs, hd, hx, es, ep, hdt, by omega, fun i hi k v e => ?_⟩
  obtain ⟨b, hb, e1, e2, e3⟩ := paired_get pr e
  have q := entry_at he i
  rw [hb] at q
  have q2 : es[i]? = some es[i] := by simp [hi]
  rw [q2] at q
  have q3 : es[i] = entryOfKey (tupleKind (mixKind X.prog X.w)) b := Option.some.inj q
  rw [q3]
  exact ⟨b.2.1, rfl, e2, e3⟩
end
/-- the pairs (key's own tuple, value), each a new tuple -/
def Itit (d : Addr) (o : Obj) (kvs : List (List Key × V)) : It :=
  ⟨fun i H => H d = some (.frz o (.dT kvs)) ∧ i < kvs.length,
   fun i H x H' => ∃ (T q : Addr) (k : List Key) (v : V), kvs[i]? = some (k, v) ∧ x = .ref T ∧ H q = some (.tup (k.map kV)) ∧ H T = none ∧ H' = upd H T (.tup [.ref q, v]),
   fun i H => H d = some (.frz o (.dT kvs)) ∧ kvs.length ≤ i⟩
theorem turn_itemsT {P : Program} {w : World} {K : PySem.W.Frag} {d : Addr} {o : Obj} {es : Array DictEntry} {ep : Nat} {kvs : List (List Key × V)} {elts : List Expr} {kk : Nat} {tpos : Pos} (it : Addr) (hod : o.data = .dict es ep) :
    Turn P w K (.Tuple elts kk tpos) (Itit d o kvs) [it] it (fun i h => ∃ ok ov, IsItemIter h it d i kvs.length ep ok ov) where
  mem := List.mem_singleton.mpr rfl
  obj := fun i h st b hb => by
    obtain ⟨ok, ov, e⟩ := st
    rw [List.mem_singleton.mp hb]
    exact ⟨_, e, fun v z => nomatch z⟩
  keep := fun i h h' st k => let ⟨ok, ov, e⟩ := st; ⟨ok, ov, k it (List.mem_singleton.mpr rfl) _ e⟩
  item := by
    intro X hP hw hK hc i pins s σ H E I hf st hg
    subst hP hw hK
    obtain ⟨hd, hi⟩ := hg
    obtain ⟨hs, hgd, hx, es', ep', hdt, hsz, ent⟩ := frzItems I hd
    obtain ⟨rfl, rfl⟩ := dict_ep hod hdt
    obtain ⟨⟨k, v⟩, hkv⟩ : ∃ p, kvs[i]? = some p := ⟨kvs[i], List.getElem?_eq_getElem hi⟩
    have hi2 : i < es'.size := by omega
    obtain ⟨q, e1, e2, rv⟩ := ent i hi2 k v hkv
    obtain ⟨ok, ov, he⟩ := st
    rw [← hsz] at he
    have hlt : it < s.heap.objs.size := Heap.lt_size he
    refine wpAny_pyNext_items_item_raw he ⟨o, hgd, hx, hdt⟩ hi2 fun h' ho hT hz hk => ?_
    refine ⟨_, rfl, wpAny_letOwnedTupleGo_items (s := { s with heap := h' }) ho fun h'' he' sb => ?_⟩
    have hT2 := (sb.2 _ (Nat.ne_of_gt hlt)).trans hT
    have new : ObjOk X.prog X.w (upd H s.heap.objs.size (.tup [.ref q, v])) h'' s.heap.objs.size (.tup [.ref q, v]) :=
      ⟨(by show 2 ≤ sizeLine; decide), [es'[i].key, es'[i].val], .cons e1 (.cons rv .nil), _, hT2, rfl, _, rfl⟩
    have I1 : Inv X pins σ (upd H s.heap.objs.size (.tup [.ref q, v])) { s with heap := h'' } :=
      I.turnedNew (t' := s.toks) (ch := [it]) (fun b ob hb e => (sb.2 b (fun z => hb (List.mem_singleton.mpr z))).trans (hk b ob (fun z => hb (List.mem_singleton.mpr z)) e)) hf (Nat.le_refl _) new
    refine ⟨.ref s.heap.objs.size, _, I1, rfl, ⟨_, q, k, v, hkv, rfl, e2, I.hok.fresh (Nat.le_refl _), rfl⟩, ⟨es'[i].key, es'[i].val, ?_⟩, fun b hb => ?_⟩
    · rw [← hsz]
      exact he'
    · rw [List.mem_singleton.mp hb, upd_ne (Nat.ne_of_lt hlt)]
      exact (hf it (List.mem_singleton.mpr rfl)).1
  done := by
    intro X hP hw hK hc i pins s σ H E I hf st hg
    subst hP hw hK
    obtain ⟨hd, hi⟩ := hg
    obtain ⟨f0, f1, f2, f3, f4, f5⟩ := hf it (List.mem_singleton.mpr rfl)
    obtain ⟨hs, hgd, hx, es', ep', hdt, hsz, ent⟩ := frzItems I hd
    obtain ⟨rfl, rfl⟩ := dict_ep hod hdt
    obtain ⟨ok, ov, he⟩ := st
    rw [← hsz] at he
    exact wpAny_pyNext_items_end_raw (I.ok.hd hc) he ⟨o, hgd, hx, hdt⟩ (by omega) fun h' eb => ⟨rfl, I.turned (t' := s.toks) (fun b ob hb e => eb b ob hb e) f0 f1 f3 f4 f5⟩
  self := fun A i s Q E st h => let ⟨_, _, e⟩ := st; PySem.W.kcp_self e h
def iItemsT (td : TE) : TI := fun σ H R => td σ H fun x H1 => ∃ d o kvs, x = .ref d ∧ H1 d = some (.frz o (.dT kvs)) ∧ R (Itit d o kvs) H1
section
variable {X : Cx} {tg e : Expr} {td : TE} {apos cpos : Pos}
theorem pi_itemsT {elts : List Expr} {kk : Nat} {tpos : Pos} (he : PE X e td) (hbase : attributeBase e "items" X.env (eval e X.env) = eval e X.env := by rfl) (hline : (apos.endLine == cpos.line) = true := by rfl) :
    PI X (.Tuple elts kk tpos) (.Call (.Attribute e "items" apos) [] [] cpos) (iItemsT td) := by
  refine ⟨fun pins s σ H R I h => ?_⟩
  refine wpAny_Call_method (T := "dict") (id := "dict.items") hbase rfl hline F.plainAttrs_dict F.slot_dict_items F.type_dict_items (thn (he.run pins s σ H _ I h) fun u s1 ⟨x, H1, I1, rx, d, o, kvs, ex, hd, q⟩ => ?_)
  subst ex
  obtain rfl : u = Value.ref d := rx
  obtain ⟨hs, hgd, hx, es, ep, hdt, hsz, ent⟩ := frzItems I1 hd
  have raw : DT.Raw s1.heap d es ep := ⟨o, hgd, hx, hdt⟩
  refine ⟨raw.typeIs, fun b eb => (by cases eb; exact ⟨o, hgd, hx.2.1⟩), ?_⟩
  have I2 : Inv X pins σ H1 { s1 with heap := s1.heap.push { cls := .type "dict_items", data := .fields #[.ref d] } } := I1.kept (t' := s1.toks) fun b ob q => Heap.get?_push_of_some _ q
  have fin : wpAny (model X.prog X.w) X.A (pyIter (.ref s1.heap.objs.size)) (PIE X pins σ (.Tuple elts kk tpos) R) X.xe { s1 with heap := s1.heap.push { cls := .type "dict_items", data := .fields #[.ref d] } } := by
    refine wpAny_pyIter_items_raw (d := d) (es := es) (ep := ep) ⟨_, Heap.get?_push_size _ rfl, rfl, rfl⟩ ⟨o, Heap.get?_push_of_some _ hgd, hx, hdt⟩ (pi_one (tk := s1.toks) I2 _ (turn_itemsT _ hdt) ⟨.none, .none, ?_⟩ q)
    rw [← hsz]
    exact Heap.get?_push_size _ rfl
  show wpAny _ _ (callWith cpos (.builtin "dict.items") [.ref d] [] []) _ X.xe s1
  exact method_meetsIn F.slot_dict_items F.entry_dict_items rfl (PySem.evalArgs_none ⟨rfl, raw.typeIs, F.args_dict_items_1 _, _, DT.meetsItems (es := es) (ep := ep) hs, raw, fin⟩)
/-- the walk of a locked dict's items -/
theorem walk_itemsT {d : Addr} {o : Obj} {kvs : List (List Key × V)} : Walk (Itit d o kvs) kvs.length (fun H => H d = some (.frz o (.dT kvs)))
    (fun i H x H' => ∃ (T q : Addr) (k : List Key) (v : V), kvs[i]? = some (k, v) ∧ x = .ref T ∧ H q = some (.tup (k.map kV)) ∧ H T = none ∧ H' = upd H T (.tup [.ref q, v])) := by
  refine ⟨fun i H hi hg => ?_, fun H hg => ?_, fun i H x H' hi hg y => ?_⟩
  · exact ⟨hg, hi⟩
  · exact ⟨hg, Nat.le_refl _⟩
  · exact y
end
end Fc

set_option Elab.async false
set_option linter.all false
set_option maxRecDepth 100000
set_option maxHeartbeats 2000000
/-! zip of four tuples of one length. Printed by gen_zip.py. -/
namespace Fc
open PySem PySem.Spec PyProof.Rows L2
abbrev Tup4 (h : Heap) (T : Addr) (a1 a2 a3 a4 : Value) : Prop := h.get? T = some { cls := .type "tuple", data := .seq #[a1, a2, a3, a4] }
/-- the zip object, its two tuples, the four iterators before turn i -/
structure Zq (h : Heap) (z TI TO i1 i2 i3 i4 t1 t2 t3 t4 : Addr) (i : Nat) : Prop where
  z : IsZip h z TI TO .none
  tin : Tup4 h TI (.ref i1) (.ref i2) (.ref i3) (.ref i4)
  tout : ∃ a1 a2 a3 a4, Tup4 h TO a1 a2 a3 a4
  s1 : h.IsTupleIter i1 t1 i
  s2 : h.IsTupleIter i2 t2 i
  s3 : h.IsTupleIter i3 t3 i
  s4 : h.IsTupleIter i4 t4 i
/-- the cells lie apart -/
structure Za (z TI TO i1 i2 i3 i4 t1 t2 t3 t4 : Addr) : Prop where
  Iz : TI ≠ z
  Oz : TO ≠ z
  IO : TI ≠ TO
  zi1 : z ≠ i1
  Ii1 : TI ≠ i1
  Oi1 : TO ≠ i1
  zt1 : t1 ≠ z
  Ot1 : t1 ≠ TO
  zi2 : z ≠ i2
  Ii2 : TI ≠ i2
  Oi2 : TO ≠ i2
  zt2 : t2 ≠ z
  Ot2 : t2 ≠ TO
  zi3 : z ≠ i3
  Ii3 : TI ≠ i3
  Oi3 : TO ≠ i3
  zt3 : t3 ≠ z
  Ot3 : t3 ≠ TO
  zi4 : z ≠ i4
  Ii4 : TI ≠ i4
  Oi4 : TO ≠ i4
  zt4 : t4 ≠ z
  Ot4 : t4 ≠ TO
  ti1_1 : t1 ≠ i1
  ti1_2 : t1 ≠ i2
  ii1_2 : i1 ≠ i2
  ti1_3 : t1 ≠ i3
  ii1_3 : i1 ≠ i3
  ti1_4 : t1 ≠ i4
  ii1_4 : i1 ≠ i4
  ti2_1 : t2 ≠ i1
  ti2_2 : t2 ≠ i2
  ti2_3 : t2 ≠ i3
  ii2_3 : i2 ≠ i3
  ti2_4 : t2 ≠ i4
  ii2_4 : i2 ≠ i4
  ti3_1 : t3 ≠ i1
  ti3_2 : t3 ≠ i2
  ti3_3 : t3 ≠ i3
  ti3_4 : t3 ≠ i4
  ii3_4 : i3 ≠ i4
  ti4_1 : t4 ≠ i1
  ti4_2 : t4 ≠ i2
  ti4_3 : t4 ≠ i3
  ti4_4 : t4 ≠ i4
section
variable {prog : Program} {w : World} {A : Around} {E : Value → Shared → Prop} {s : Shared} {z TI TO i1 i2 i3 i4 t1 t2 t3 t4 : Addr} {w1 w2 w3 w4 : Array Value} {i n : Nat}
theorem put4 {T : Addr} {x a1 a2 a3 a4 : Value} {k : Nat} {Q : Unit → Shared → Prop} (hT : Tup4 s.heap T a1 a2 a3 a4)
    (h : ∀ h', h'.get? T = some { cls := .type "tuple", data := .seq ((#[a1, a2, a3, a4] : Array Value).setIfInBounds k x) } → Heap.SameBut T s.heap h' → Q () { s with heap := h' }) :
    wpAny (model prog w) A (updateSeq T (·.setIfInBounds k x)) Q E s := by
  refine wpAny_updateSeq hT rfl (h _ ?_ (Heap.SameBut.update ..))
  rw [Heap.get?_update_self _ hT rfl]
  simp [Obj.mapSeq]
theorem zq_item {Q : Value → Shared → Prop} (hh : A.handled = none) (S : Za z TI TO i1 i2 i3 i4 t1 t2 t3 t4) (st : Zq s.heap z TI TO i1 i2 i3 i4 t1 t2 t3 t4 i) (u1 : s.heap.IsTuple t1 w1) (l1 : i < w1.size) (u2 : s.heap.IsTuple t2 w2) (l2 : i < w2.size) (u3 : s.heap.IsTuple t3 w3) (l3 : i < w3.size) (u4 : s.heap.IsTuple t4 w4) (l4 : i < w4.size)
    (hQ : ∀ h' tk (x1 x2 x3 x4 : Value), w1[i]? = some x1 → w2[i]? = some x2 → w3[i]? = some x3 → w4[i]? = some x4 → IsZip h' z TI TO (rawInt s.heap.objs.size) → Tup4 h' TI (.ref i1) (.ref i2) (.ref i3) (.ref i4) → Tup4 h' TO x1 x2 x3 x4 → h'.IsTupleIter i1 t1 (i + 1) → h'.IsTupleIter i2 t2 (i + 1) → h'.IsTupleIter i3 t3 (i + 1) → h'.IsTupleIter i4 t4 (i + 1) → Tup4 h' s.heap.objs.size x1 x2 x3 x4 →
      (∀ c o, c ≠ z → c ≠ TO → c ≠ i1 → c ≠ i2 → c ≠ i3 → c ≠ i4 → s.heap.get? c = some o → h'.get? c = some o) → Q (.ref s.heap.objs.size) { s with heap := h', toks := tk }) :
    wpAny (model prog w) A (Builtin.«zip.__next__» ⟨[.ref z], []⟩) (fun fin s' => ∃ v, fin = .done (.ret v) ∧ Q v s') E s := by
  obtain ⟨hz, hTI, ⟨a1, a2, a3, a4, hTO⟩, s1, s2, s3, s4⟩ := st
  obtain ⟨hp, g, d, tk0, os⟩ := s
  show wpAny _ _ (field (.ref z) 2 >>= _) _ _ ⟨hp, g, d, tk0, os⟩
  refine wpAny_bind (wpAny_field hz rfl (x := .bool false) rfl ?_)
  show wpAny _ _ (field (.ref z) 3 >>= _) _ _ ⟨hp, g, d, tk0, os⟩
  refine wpAny_bind (wpAny_field hz rfl (x := .ref TI) rfl ?_)
  refine wpAny_bind (wpAny_seqItems hTI rfl ?_)
  show wpAny _ _ (Builtin.SmallTypes.ownedTupleIsFree (.ref z) >>= _) _ _ ⟨hp, g, d, tk0, os⟩
  refine wpAny_bind ?_
  unfold Builtin.SmallTypes.ownedTupleIsFree
  refine wpAny_bind (wpAny_field hz rfl (x := .none) rfl (wpAny_pure ?_))
  simp only [if_true]
  refine wpAny_bind (wpAny_rule ?_)
  refine wpAny_bind (wpAny_field hz rfl (x := .ref TO) rfl ?_)
  refine wpAny_bind (wpAny_setField_rec hz (by simp) fun g0 (hz0 : IsZip g0 z TI TO .ellipsis) (e0 : Heap.SameBut z hp g0) => ?_)
  refine wpAny_bind ?_
  simp only [List.zipIdx_cons, List.zipIdx_nil, List.forIn_cons, List.forIn_nil]
  refine wpAny_bind (wpAny_bind (wpAny_onRaise ?_))
  show wpAny _ _ (Builtin.SmallTypes.nextOf (.ref i1) >>= _) _ _ ⟨g0, g, d, tk0, os⟩
  refine wpAny_bind ((Draws.tuple (prog := prog) (w := w) (A := A) hh i1 t1 S.ti1_1 w1).item i _ _ _ l1 ⟨(s1.at fun o y => (e0.extBut _ _ S.zi1.symm y)), (u1.at fun o y => (e0.extBut _ _ S.zt1 y))⟩ fun x1 p1 tk1 (r1 : w1[i]? = some x1) v1 (q1 : Heap.SameBut i1 g0 p1) => wpAny_pure ?_)
  have U1 : Tup4 p1 TO a1 a2 a3 a4 := q1.extBut _ _ S.Oi1 (e0.extBut _ _ S.Oz hTO)
  refine wpAny_bind (wpAny_seqItems (s := ⟨p1, g, d, tk1, os⟩) U1 rfl ?_)
  refine wpAny_bind (put4 (s := ⟨p1, g, d, tk1, os⟩) U1 fun g1 (T1 : Tup4 g1 TO x1 a2 a3 a4) (e1 : Heap.SameBut TO p1 g1) => ?_)
  refine wpAny_bind (wpAny_letGo (wpAny_pure ?_))
  refine wpAny_bind (wpAny_bind (wpAny_onRaise ?_))
  show wpAny _ _ (Builtin.SmallTypes.nextOf (.ref i2) >>= _) _ _ ⟨g1, g, d, tk1, os⟩
  refine wpAny_bind ((Draws.tuple (prog := prog) (w := w) (A := A) hh i2 t2 S.ti2_2 w2).item i _ _ _ l2 ⟨(s2.at fun o y => (e1.extBut _ _ S.Oi2.symm (q1.extBut _ _ S.ii1_2.symm (e0.extBut _ _ S.zi2.symm y)))), (u2.at fun o y => (e1.extBut _ _ S.Ot2 (q1.extBut _ _ S.ti2_1 (e0.extBut _ _ S.zt2 y))))⟩ fun x2 p2 tk2 (r2 : w2[i]? = some x2) v2 (q2 : Heap.SameBut i2 g1 p2) => wpAny_pure ?_)
  have U2 : Tup4 p2 TO x1 a2 a3 a4 := q2.extBut _ _ S.Oi2 T1
  refine wpAny_bind (wpAny_seqItems (s := ⟨p2, g, d, tk2, os⟩) U2 rfl ?_)
  refine wpAny_bind (put4 (s := ⟨p2, g, d, tk2, os⟩) U2 fun g2 (T2 : Tup4 g2 TO x1 x2 a3 a4) (e2 : Heap.SameBut TO p2 g2) => ?_)
  refine wpAny_bind (wpAny_letGo (wpAny_pure ?_))
  refine wpAny_bind (wpAny_bind (wpAny_onRaise ?_))
  show wpAny _ _ (Builtin.SmallTypes.nextOf (.ref i3) >>= _) _ _ ⟨g2, g, d, tk2, os⟩
  refine wpAny_bind ((Draws.tuple (prog := prog) (w := w) (A := A) hh i3 t3 S.ti3_3 w3).item i _ _ _ l3 ⟨(s3.at fun o y => (e2.extBut _ _ S.Oi3.symm (q2.extBut _ _ S.ii2_3.symm (e1.extBut _ _ S.Oi3.symm (q1.extBut _ _ S.ii1_3.symm (e0.extBut _ _ S.zi3.symm y)))))), (u3.at fun o y => (e2.extBut _ _ S.Ot3 (q2.extBut _ _ S.ti3_2 (e1.extBut _ _ S.Ot3 (q1.extBut _ _ S.ti3_1 (e0.extBut _ _ S.zt3 y))))))⟩ fun x3 p3 tk3 (r3 : w3[i]? = some x3) v3 (q3 : Heap.SameBut i3 g2 p3) => wpAny_pure ?_)
  have U3 : Tup4 p3 TO x1 x2 a3 a4 := q3.extBut _ _ S.Oi3 T2
  refine wpAny_bind (wpAny_seqItems (s := ⟨p3, g, d, tk3, os⟩) U3 rfl ?_)
  refine wpAny_bind (put4 (s := ⟨p3, g, d, tk3, os⟩) U3 fun g3 (T3 : Tup4 g3 TO x1 x2 x3 a4) (e3 : Heap.SameBut TO p3 g3) => ?_)
  refine wpAny_bind (wpAny_letGo (wpAny_pure ?_))
  refine wpAny_bind (wpAny_bind (wpAny_onRaise ?_))
  show wpAny _ _ (Builtin.SmallTypes.nextOf (.ref i4) >>= _) _ _ ⟨g3, g, d, tk3, os⟩
  refine wpAny_bind ((Draws.tuple (prog := prog) (w := w) (A := A) hh i4 t4 S.ti4_4 w4).item i _ _ _ l4 ⟨(s4.at fun o y => (e3.extBut _ _ S.Oi4.symm (q3.extBut _ _ S.ii3_4.symm (e2.extBut _ _ S.Oi4.symm (q2.extBut _ _ S.ii2_4.symm (e1.extBut _ _ S.Oi4.symm (q1.extBut _ _ S.ii1_4.symm (e0.extBut _ _ S.zi4.symm y)))))))), (u4.at fun o y => (e3.extBut _ _ S.Ot4 (q3.extBut _ _ S.ti4_3 (e2.extBut _ _ S.Ot4 (q2.extBut _ _ S.ti4_2 (e1.extBut _ _ S.Ot4 (q1.extBut _ _ S.ti4_1 (e0.extBut _ _ S.zt4 y))))))))⟩ fun x4 p4 tk4 (r4 : w4[i]? = some x4) v4 (q4 : Heap.SameBut i4 g3 p4) => wpAny_pure ?_)
  have U4 : Tup4 p4 TO x1 x2 x3 a4 := q4.extBut _ _ S.Oi4 T3
  refine wpAny_bind (wpAny_seqItems (s := ⟨p4, g, d, tk4, os⟩) U4 rfl ?_)
  refine wpAny_bind (put4 (s := ⟨p4, g, d, tk4, os⟩) U4 fun g4 (T4 : Tup4 g4 TO x1 x2 x3 x4) (e4 : Heap.SameBut TO p4 g4) => ?_)
  refine wpAny_bind (wpAny_letGo (wpAny_pure <| wpAny_pure ?_))
  refine wpAny_bind (wpAny_seqItems (s := ⟨g4, g, d, tk4, os⟩) T4 rfl ?_)
  refine wpAny_bind (wpAny_newTuple ?_)
  have sz : g4.objs.size = hp.objs.size := by rw [e4.1, q4.1, e3.1, q3.1, e2.1, q2.1, e1.1, q1.1, e0.1]
  have zz : IsZip g4 z TI TO .ellipsis := (e4.extBut _ _ S.Oz.symm (q4.extBut _ _ S.zi4 (e3.extBut _ _ S.Oz.symm (q3.extBut _ _ S.zi3 (e2.extBut _ _ S.Oz.symm (q2.extBut _ _ S.zi2 (e1.extBut _ _ S.Oz.symm (q1.extBut _ _ S.zi1 hz0))))))))
  have kk : ∀ c o, c ≠ z → c ≠ TO → c ≠ i1 → c ≠ i2 → c ≠ i3 → c ≠ i4 → hp.get? c = some o → g4.get? c = some o := fun c o cz cT c1 c2 c3 c4 y => (e4.extBut _ _ cT (q4.extBut _ _ c4 (e3.extBut _ _ cT (q3.extBut _ _ c3 (e2.extBut _ _ cT (q2.extBut _ _ c2 (e1.extBut _ _ cT (q1.extBut _ _ c1 (e0.extBut _ _ cz y)))))))))
  have f1 : g4.IsTupleIter i1 t1 (i + 1) := v1.1.at fun o y => (e4.extBut _ _ S.Oi1.symm (q4.extBut _ _ S.ii1_4 (e3.extBut _ _ S.Oi1.symm (q3.extBut _ _ S.ii1_3 (e2.extBut _ _ S.Oi1.symm (q2.extBut _ _ S.ii1_2 (e1.extBut _ _ S.Oi1.symm y)))))))
  have f2 : g4.IsTupleIter i2 t2 (i + 1) := v2.1.at fun o y => (e4.extBut _ _ S.Oi2.symm (q4.extBut _ _ S.ii2_4 (e3.extBut _ _ S.Oi2.symm (q3.extBut _ _ S.ii2_3 (e2.extBut _ _ S.Oi2.symm y)))))
  have f3 : g4.IsTupleIter i3 t3 (i + 1) := v3.1.at fun o y => (e4.extBut _ _ S.Oi3.symm (q4.extBut _ _ S.ii3_4 (e3.extBut _ _ S.Oi3.symm y)))
  have f4 : g4.IsTupleIter i4 t4 (i + 1) := v4.1.at fun o y => (e4.extBut _ _ S.Oi4.symm y)
  have zl : z < g4.objs.size := Heap.lt_size zz
  show wpAny _ _ (Builtin.SmallTypes.ownedTupleHandOut (.ref z) (.ref g4.objs.size) >>= _) _ _ ⟨g4.push { cls := .type "tuple", data := .seq #[x1, x2, x3, x4] }, g, d, tk4, os⟩
  refine wpAny_bind ?_
  unfold Builtin.SmallTypes.ownedTupleHandOut
  have z6 : IsZip (g4.push { cls := .type "tuple", data := .seq #[x1, x2, x3, x4] }) z TI TO .ellipsis := Heap.get?_push_of_some _ zz
  refine wpAny_bind (wpAny_setField_rec z6 (by simp) fun g7 (z7 : IsZip g7 z TI TO (rawInt g4.objs.size)) (e7 : Heap.SameBut z (g4.push { cls := .type "tuple", data := .seq #[x1, x2, x3, x4] }) g7) => ?_)
  refine wpAny_setField_rec z7 (by simp) fun g8 (z8 : IsZip g8 z TI TO (rawInt g4.objs.size)) (e8 : Heap.SameBut z g7 g8) => ?_
  have up : ∀ c o, c ≠ z → g4.get? c = some o → g8.get? c = some o := fun c o c1 y => e8.extBut _ _ c1 (e7.extBut _ _ c1 (Heap.get?_push_of_some _ y))
  have T8 : Tup4 g8 g4.objs.size x1 x2 x3 x4 := e8.extBut _ _ (Nat.ne_of_gt zl) (e7.extBut _ _ (Nat.ne_of_gt zl) (Heap.get?_push_size _ rfl))
  rw [sz] at z8 T8
  refine wpAny_pure ⟨_, rfl, ?_⟩
  show Q (.ref g4.objs.size) ⟨g8, g, d, tk4, os⟩
  rw [sz]
  exact hQ g8 tk4 x1 x2 x3 x4 r1 r2 r3 r4 z8 (up _ _ S.Iz (kk _ _ S.Iz S.IO S.Ii1 S.Ii2 S.Ii3 S.Ii4 hTI)) (up _ _ S.Oz T4) (f1.at fun o y => up _ o S.zi1.symm y) (f2.at fun o y => up _ o S.zi2.symm y)
    (f3.at fun o y => up _ o S.zi3.symm y) (f4.at fun o y => up _ o S.zi4.symm y) T8 fun c o cz cT c1 c2 c3 c4 y => up c o cz (kk c o cz cT c1 c2 c3 c4 y)
theorem zq_end {Q : PySem.Fin → Shared → Prop} (hh : A.handled = none) (S : Za z TI TO i1 i2 i3 i4 t1 t2 t3 t4) (st : Zq s.heap z TI TO i1 i2 i3 i4 t1 t2 t3 t4 w1.size) (u1 : s.heap.IsTuple t1 w1)
    (hE : ∀ h' tk e, (∀ c o, c ≠ z → c ≠ i1 → s.heap.get? c = some o → h'.get? c = some o) → (∃ o, h'.get? e = some o ∧ o.cls = .type "StopIteration") → E (.ref e) { s with heap := h', toks := tk }) :
    wpAny (model prog w) A (Builtin.«zip.__next__» ⟨[.ref z], []⟩) Q E s := by
  obtain ⟨hz, hTI, ⟨a1, a2, a3, a4, hTO⟩, s1, s2, s3, s4⟩ := st
  obtain ⟨hp, g, d, tk0, os⟩ := s
  show wpAny _ _ (field (.ref z) 2 >>= _) _ _ ⟨hp, g, d, tk0, os⟩
  refine wpAny_bind (wpAny_field hz rfl (x := .bool false) rfl ?_)
  show wpAny _ _ (field (.ref z) 3 >>= _) _ _ ⟨hp, g, d, tk0, os⟩
  refine wpAny_bind (wpAny_field hz rfl (x := .ref TI) rfl ?_)
  refine wpAny_bind (wpAny_seqItems hTI rfl ?_)
  show wpAny _ _ (Builtin.SmallTypes.ownedTupleIsFree (.ref z) >>= _) _ _ ⟨hp, g, d, tk0, os⟩
  refine wpAny_bind ?_
  unfold Builtin.SmallTypes.ownedTupleIsFree
  refine wpAny_bind (wpAny_field hz rfl (x := .none) rfl (wpAny_pure ?_))
  simp only [if_true]
  refine wpAny_bind (wpAny_rule ?_)
  refine wpAny_bind (wpAny_field hz rfl (x := .ref TO) rfl ?_)
  refine wpAny_bind (wpAny_setField_rec hz (by simp) fun g0 (hz0 : IsZip g0 z TI TO .ellipsis) (e0 : Heap.SameBut z hp g0) => ?_)
  refine wpAny_bind ?_
  simp only [List.zipIdx_cons, List.zipIdx_nil, List.forIn_cons, List.forIn_nil]
  refine wpAny_bind (wpAny_bind (wpAny_onRaise ?_))
  show wpAny _ _ (Builtin.SmallTypes.nextOf (.ref i1) >>= _) _ _ ⟨g0, g, d, tk0, os⟩
  refine wpAny_bind ((Draws.tuple (prog := prog) (w := w) (A := A) hh i1 t1 S.ti1_1 w1).done ⟨g0, g, d, tk0, os⟩ _ _ ⟨s1.at fun o y => e0.extBut _ _ S.zi1.symm y, u1.at fun o y => e0.extBut _ _ S.zt1 y⟩ fun q e (hq : Heap.ExtBut i1 g0 q) he => ?_)
  obtain ⟨oe, (hoe : q.get? e = some oe), hce⟩ := he
  have zq : IsZip q z TI TO .ellipsis := hq _ _ S.zi1 hz0
  have hez : e ≠ z := fun x => by
    subst x
    rw [zq] at hoe
    cases hoe
    simp at hce
  refine wpAny_setField_rec (s := ⟨q, g, d, tk0, os⟩) zq (by simp) fun q' _ (e9 : Heap.SameBut z q q') => ?_
  exact hE q' tk0 e (fun c o cz c1 y => e9.extBut _ _ cz (hq _ _ c1 (e0.extBut _ _ cz y))) ⟨oe, e9.extBut _ _ hez hoe, hce⟩
end
end Fc

set_option Elab.async false
set_option linter.all false
set_option maxRecDepth 100000
set_option maxHeartbeats 2000000
namespace Fc
open PySem PySem.Spec PyProof.Rows L2
/-! ### zip(a, b, c, d) begins -/
abbrev zqT (h : Heap) (o1 o2 o3 o4 : Obj) : Heap := ((((h.push o1).push o2).push o3).push o4).push { cls := .type "tuple", data := .seq #[.ref h.objs.size, .ref (h.push o1).objs.size, .ref ((h.push o1).push o2).objs.size, .ref (((h.push o1).push o2).push o3).objs.size] }
abbrev zqO (h : Heap) (o1 o2 o3 o4 : Obj) : Heap := (zqT h o1 o2 o3 o4).push { cls := .type "tuple", data := .seq #[.none, .none, .none, .none] }
abbrev zqZ (h : Heap) (o1 o2 o3 o4 : Obj) : Heap := (zqO h o1 o2 o3 o4).push { cls := .type "zip", data := .fields #[.none, .bool false, .bool false, .ref ((((h.push o1).push o2).push o3).push o4).objs.size, .ref (zqT h o1 o2 o3 o4).objs.size] }
theorem typeCall_zip4 (a b c d : Value) : checkTypeCall "zip" ⟨[a, b, c, d], []⟩ = pure () := by kernel_rfl
theorem newCall_zip4 (a b c d : Value) : checkBuiltinCall "zip.__new__" ⟨[.type "zip", a, b, c, d], []⟩ = pure () := by kernel_rfl
theorem args_init5 (obj a b c d : Value) : argsOk "object.__init__" ⟨[obj, a, b, c, d], []⟩ := by
  unfold argsOk
  kernel_rfl
/-- an iterator over a tuple -/
abbrev tIt (t : Addr) : Obj := { cls := .type "tuple_iterator", data := .fields #[.ref t, .int 0 0] }
theorem meets_zip4 {t1 t2 t3 t4 : Addr} {w1 w2 w3 w4 : Array Value} :
    Meets (Builtin.«zip.__new__» ⟨[.type "zip", .ref t1, .ref t2, .ref t3, .ref t4], []⟩) (fun _ R s => (s.heap.IsTuple t1 w1 ∧ s.heap.IsTuple t2 w2 ∧ s.heap.IsTuple t3 w3 ∧ s.heap.IsTuple t4 w4) ∧
      R (.ok (.ret (.ref (zqO s.heap (tIt t1) (tIt t2) (tIt t3) (tIt t4)).objs.size))) { s with heap := zqZ s.heap (tIt t1) (tIt t2) (tIt t3) (tIt t4) }) :=
  .of_wp fun prog w A R s h => by
    obtain ⟨hp, g, d, tk, os⟩ := s
    obtain ⟨⟨h1, h2, h3, h4⟩, h⟩ := h
    have hsub := sub_zip
    have q1 : ∀ {A' : Around} {E : Value → Shared → Prop} {Q : Value → Shared → Prop}, Q (.ref hp.objs.size) ⟨hp.push (tIt t1), g, d, tk, os⟩ → wpAny (model prog w) A' (pyIter (.ref t1)) Q E ⟨hp, g, d, tk, os⟩ :=
      fun q => wpAny_pyIter_tuple h1 q
    have q2 : ∀ {A' : Around} {E : Value → Shared → Prop} {Q : Value → Shared → Prop}, Q (.ref (hp.push (tIt t1)).objs.size) ⟨(hp.push (tIt t1)).push (tIt t2), g, d, tk, os⟩ → wpAny (model prog w) A' (pyIter (.ref t2)) Q E ⟨hp.push (tIt t1), g, d, tk, os⟩ :=
      fun q => wpAny_pyIter_tuple (h2.at fun o e => Heap.get?_push_of_some _ e) q
    have q3 : ∀ {A' : Around} {E : Value → Shared → Prop} {Q : Value → Shared → Prop}, Q (.ref ((hp.push (tIt t1)).push (tIt t2)).objs.size) ⟨((hp.push (tIt t1)).push (tIt t2)).push (tIt t3), g, d, tk, os⟩ → wpAny (model prog w) A' (pyIter (.ref t3)) Q E ⟨(hp.push (tIt t1)).push (tIt t2), g, d, tk, os⟩ :=
      fun q => wpAny_pyIter_tuple (h3.at fun o e => Heap.get?_push_of_some _ (Heap.get?_push_of_some _ e)) q
    have q4 : ∀ {A' : Around} {E : Value → Shared → Prop} {Q : Value → Shared → Prop}, Q (.ref (((hp.push (tIt t1)).push (tIt t2)).push (tIt t3)).objs.size) ⟨(((hp.push (tIt t1)).push (tIt t2)).push (tIt t3)).push (tIt t4), g, d, tk, os⟩ → wpAny (model prog w) A' (pyIter (.ref t4)) Q E ⟨((hp.push (tIt t1)).push (tIt t2)).push (tIt t3), g, d, tk, os⟩ :=
      fun q => wpAny_pyIter_tuple (h4.at fun o e => Heap.get?_push_of_some _ (Heap.get?_push_of_some _ (Heap.get?_push_of_some _ e))) q
    wp_walk using q1, q2, q3, q4
    exact ⟨_, rfl, h⟩
section
variable {prog : Program} {w : World} {A : Around} {E : Value → Shared → Prop} {s : Shared}
theorem zip4_begins {t1 t2 t3 t4 : Addr} {w1 w2 w3 w4 : Array Value} {Q : Value → Shared → Prop} (h1 : s.heap.IsTuple t1 w1) (h2 : s.heap.IsTuple t2 w2) (h3 : s.heap.IsTuple t3 w3) (h4 : s.heap.IsTuple t4 w4)
    (h : ∀ h', Zq h' (s.heap.objs.size + 6) (s.heap.objs.size + 4) (s.heap.objs.size + 5) s.heap.objs.size (s.heap.objs.size + 1) (s.heap.objs.size + 2) (s.heap.objs.size + 3) t1 t2 t3 t4 0 →
      (∀ c o, s.heap.get? c = some o → h'.get? c = some o) → Q (.ref (s.heap.objs.size + 6)) { s with heap := h' }) :
    wpAny (model prog w) A (call (.type "zip") [.ref t1, .ref t2, .ref t3, .ref t4]) Q E s := by
  refine callType_new F.called_zip (by decide) (typeCall_zip4 _ _ _ _) (newCall_zip4 _ _ _ _) (fun obj => args_init5 obj _ _ _ _) F.entry_zip_new (meets_zip4 (w1 := w1) (w2 := w2) (w3 := w3) (w4 := w4)) ⟨⟨h1, h2, h3, h4⟩, ?_⟩
  have z1 : (s.heap.push (tIt t1)).objs.size = s.heap.objs.size + 1 := by rw [Heap.size_push]
  have z2 : ((s.heap.push (tIt t1)).push (tIt t2)).objs.size = s.heap.objs.size + 2 := by rw [Heap.size_push, z1]
  have z3 : (((s.heap.push (tIt t1)).push (tIt t2)).push (tIt t3)).objs.size = s.heap.objs.size + 3 := by rw [Heap.size_push, z2]
  have z4 : ((((s.heap.push (tIt t1)).push (tIt t2)).push (tIt t3)).push (tIt t4)).objs.size = s.heap.objs.size + 4 := by rw [Heap.size_push, z3]
  have zT : (zqT s.heap (tIt t1) (tIt t2) (tIt t3) (tIt t4)).objs.size = s.heap.objs.size + 5 := by rw [Heap.size_push, z4]
  have zO : (zqO s.heap (tIt t1) (tIt t2) (tIt t3) (tIt t4)).objs.size = s.heap.objs.size + 6 := by rw [Heap.size_push, zT]
  have gZ : (zqZ s.heap (tIt t1) (tIt t2) (tIt t3) (tIt t4)).get? (zqO s.heap (tIt t1) (tIt t2) (tIt t3) (tIt t4)).objs.size = some { cls := .type "zip", data := .fields #[.none, .bool false, .bool false, .ref ((((s.heap.push (tIt t1)).push (tIt t2)).push (tIt t3)).push (tIt t4)).objs.size, .ref (zqT s.heap (tIt t1) (tIt t2) (tIt t3) (tIt t4)).objs.size] } := Heap.get?_push_size _ rfl
  have gO : (zqZ s.heap (tIt t1) (tIt t2) (tIt t3) (tIt t4)).get? (zqT s.heap (tIt t1) (tIt t2) (tIt t3) (tIt t4)).objs.size = some { cls := .type "tuple", data := .seq #[.none, .none, .none, .none] } := Heap.get?_push_of_some _ (Heap.get?_push_size _ rfl)
  have gT : (zqZ s.heap (tIt t1) (tIt t2) (tIt t3) (tIt t4)).get? ((((s.heap.push (tIt t1)).push (tIt t2)).push (tIt t3)).push (tIt t4)).objs.size = some { cls := .type "tuple", data := .seq #[.ref s.heap.objs.size, .ref (s.heap.push (tIt t1)).objs.size, .ref ((s.heap.push (tIt t1)).push (tIt t2)).objs.size, .ref (((s.heap.push (tIt t1)).push (tIt t2)).push (tIt t3)).objs.size] } :=
    Heap.get?_push_of_some _ (Heap.get?_push_of_some _ (Heap.get?_push_size _ rfl))
  have g1 : (zqZ s.heap (tIt t1) (tIt t2) (tIt t3) (tIt t4)).get? s.heap.objs.size = some (tIt t1) := Heap.get?_push_of_some _ (Heap.get?_push_of_some _ (Heap.get?_push_of_some _ (Heap.get?_push_of_some _ (Heap.get?_push_of_some _ (Heap.get?_push_of_some _ (Heap.get?_push_size _ rfl))))))
  have g2 : (zqZ s.heap (tIt t1) (tIt t2) (tIt t3) (tIt t4)).get? (s.heap.push (tIt t1)).objs.size = some (tIt t2) := Heap.get?_push_of_some _ (Heap.get?_push_of_some _ (Heap.get?_push_of_some _ (Heap.get?_push_of_some _ (Heap.get?_push_of_some _ (Heap.get?_push_size _ rfl)))))
  have g3 : (zqZ s.heap (tIt t1) (tIt t2) (tIt t3) (tIt t4)).get? ((s.heap.push (tIt t1)).push (tIt t2)).objs.size = some (tIt t3) := Heap.get?_push_of_some _ (Heap.get?_push_of_some _ (Heap.get?_push_of_some _ (Heap.get?_push_of_some _ (Heap.get?_push_size _ rfl))))
  have g4 : (zqZ s.heap (tIt t1) (tIt t2) (tIt t3) (tIt t4)).get? (((s.heap.push (tIt t1)).push (tIt t2)).push (tIt t3)).objs.size = some (tIt t4) := Heap.get?_push_of_some _ (Heap.get?_push_of_some _ (Heap.get?_push_of_some _ (Heap.get?_push_size _ rfl)))
  rw [zO, zT, z4] at gZ
  rw [zT] at gO
  rw [z4, z3, z2, z1] at gT
  rw [z1] at g2
  rw [z2] at g3
  rw [z3] at g4
  show _ ∧ _
  rw [zO]
  exact ⟨⟨_, gZ, rfl⟩, h _ ⟨gZ, gT, ⟨_, _, _, _, gO⟩, ⟨_, g1, rfl, rfl⟩, ⟨_, g2, rfl, rfl⟩, ⟨_, g3, rfl, rfl⟩, ⟨_, g4, rfl, rfl⟩⟩ fun c o e =>
    Heap.get?_push_of_some _ (Heap.get?_push_of_some _ (Heap.get?_push_of_some _ (Heap.get?_push_of_some _ (Heap.get?_push_of_some _ (Heap.get?_push_of_some _ (Heap.get?_push_of_some _ e))))))⟩
end
end Fc

set_option Elab.async false
set_option linter.all false
set_option maxRecDepth 100000
set_option maxHeartbeats 2000000
/-! a, b, c, d in zip of four tuples of one length. Printed by gen_zip3.py. -/
namespace Fc
open PySem PySem.Spec PyProof.Rows L2
/-- four tuples of n items, item by item, each four in a new tuple -/
def ItzQ (K : PySem.W.Frag) (n : Nat) (t1 t2 t3 t4 : Addr) (x1 x2 x3 x4 : List V) : It :=
  ⟨fun i H => i < n ∧ SqT K H t1 x1 ∧ SqT K H t2 x2 ∧ SqT K H t3 x3 ∧ SqT K H t4 x4,
   fun i H v H' => ∃ (T : Addr) (y1 y2 y3 y4 : V), v = .ref T ∧ H T = none ∧ H' = upd H T (.tup [y1, y2, y3, y4]) ∧ x1[i]? = some y1 ∧ x2[i]? = some y2 ∧ x3[i]? = some y3 ∧ x4[i]? = some y4,
   fun i H => i = n ∧ SqT K H t1 x1 ∧ SqT K H t2 x2 ∧ SqT K H t3 x3 ∧ SqT K H t4 x4⟩
theorem apart4 {N : Nat} {t1 t2 t3 t4 : Addr} (h1 : t1 < N) (h2 : t2 < N) (h3 : t3 < N) (h4 : t4 < N) : Za (N + 6) (N + 4) (N + 5) N (N + 1) (N + 2) (N + 3) t1 t2 t3 t4 := by
  have ne : ∀ {a b : Addr}, a < b → a ≠ b := fun h => Nat.ne_of_lt h
  have up : ∀ {a : Addr} (k : Nat), a < N → a ≠ N + k := fun k h => Nat.ne_of_lt (Nat.lt_of_lt_of_le h (Nat.le_add_right _ _))
  have up0 : ∀ {a : Addr}, a < N → a ≠ N := fun h => Nat.ne_of_lt h
  have off : ∀ (j k : Nat), j ≠ k → (N + j : Nat) ≠ N + k := fun j k h e => h (Nat.add_left_cancel e)
  have off0 : ∀ (j : Nat), j ≠ 0 → (N + j : Nat) ≠ N := fun j h e => h (by omega)
  exact { Iz := off 4 6 (by decide), Oz := off 5 6 (by decide), IO := off 4 5 (by decide), zi1 := off0 6 (by decide), Ii1 := off0 4 (by decide), Oi1 := off0 5 (by decide), zt1 := up 6 h1, Ot1 := up 5 h1, zi2 := off 6 1 (by decide), Ii2 := off 4 1 (by decide), Oi2 := off 5 1 (by decide), zt2 := up 6 h2, Ot2 := up 5 h2, zi3 := off 6 2 (by decide), Ii3 := off 4 2 (by decide), Oi3 := off 5 2 (by decide), zt3 := up 6 h3, Ot3 := up 5 h3, zi4 := off 6 3 (by decide), Ii4 := off 4 3 (by decide), Oi4 := off 5 3 (by decide), zt4 := up 6 h4, Ot4 := up 5 h4, ti1_1 := up0 h1, ti1_2 := up 1 h1, ii1_2 := (off0 1 (by decide)).symm, ti1_3 := up 2 h1, ii1_3 := (off0 2 (by decide)).symm, ti1_4 := up 3 h1, ii1_4 := (off0 3 (by decide)).symm, ti2_1 := up0 h2, ti2_2 := up 1 h2, ti2_3 := up 2 h2, ii2_3 := off 1 2 (by decide), ti2_4 := up 3 h2, ii2_4 := off 1 3 (by decide), ti3_1 := up0 h3, ti3_2 := up 1 h3, ti3_3 := up 2 h3, ti3_4 := up 3 h3, ii3_4 := off 2 3 (by decide), ti4_1 := up0 h4, ti4_2 := up 1 h4, ti4_3 := up 2 h4, ti4_4 := up 3 h4 }
section
variable {prog : Program} {w : World} {A : Around} {E : Value → Shared → Prop} {s : Shared} {z TI TO i1 i2 i3 i4 t1 t2 t3 t4 : Addr} {w1 w2 w3 w4 : Array Value} {i n : Nat}
theorem next_zq {Q : Option Value → Shared → Prop} (hh : A.handled = none) (S : Za z TI TO i1 i2 i3 i4 t1 t2 t3 t4) (st : Zq s.heap z TI TO i1 i2 i3 i4 t1 t2 t3 t4 i) (u1 : s.heap.IsTuple t1 w1) (l1 : i < w1.size) (u2 : s.heap.IsTuple t2 w2) (l2 : i < w2.size) (u3 : s.heap.IsTuple t3 w3) (l3 : i < w3.size) (u4 : s.heap.IsTuple t4 w4) (l4 : i < w4.size)
    (hQ : ∀ h' tk (x1 x2 x3 x4 : Value), w1[i]? = some x1 → w2[i]? = some x2 → w3[i]? = some x3 → w4[i]? = some x4 → IsZip h' z TI TO (rawInt s.heap.objs.size) → Tup4 h' TI (.ref i1) (.ref i2) (.ref i3) (.ref i4) → Tup4 h' TO x1 x2 x3 x4 → h'.IsTupleIter i1 t1 (i + 1) → h'.IsTupleIter i2 t2 (i + 1) → h'.IsTupleIter i3 t3 (i + 1) → h'.IsTupleIter i4 t4 (i + 1) → Tup4 h' s.heap.objs.size x1 x2 x3 x4 →
      (∀ c o, c ≠ z → c ≠ TO → c ≠ i1 → c ≠ i2 → c ≠ i3 → c ≠ i4 → s.heap.get? c = some o → h'.get? c = some o) → Q (some (.ref s.heap.objs.size)) { s with heap := h', toks := tk }) :
    wpAny (model prog w) A (pyNext (.ref z)) Q E s := by
  have hT : s.TypeIs (.ref z) "zip" := ⟨_, st.z, rfl⟩
  unfold pyNext
  refine wpAny_bind (wpAny_attempt (wpAny_callSpecial?_slot (name := Str.ofString "__next__") hT F.slot_zip_next (wpAny_call_entry F.slot_zip_next hT F.entry_zip_next ?_ (F.args_zip_next_1 _))))
  exact zq_item (A := A.in1) hh S st u1 l1 u2 l2 u3 l3 u4 l4 fun h' tk y1 y2 y3 y4 a1 a2 a3 a4 b c d e1 e2 e3 e4 f g => wpAny_pure (hQ h' tk y1 y2 y3 y4 a1 a2 a3 a4 b c d e1 e2 e3 e4 f g)
theorem next_zq_end {Q : Option Value → Shared → Prop} (hh : A.handled = none) (S : Za z TI TO i1 i2 i3 i4 t1 t2 t3 t4) (st : Zq s.heap z TI TO i1 i2 i3 i4 t1 t2 t3 t4 w1.size) (u1 : s.heap.IsTuple t1 w1)
    (hQ : ∀ h' tk, (∀ c o, c ≠ z → c ≠ i1 → s.heap.get? c = some o → h'.get? c = some o) → Q none { s with heap := h', toks := tk }) : wpAny (model prog w) A (pyNext (.ref z)) Q E s := by
  have hT : s.TypeIs (.ref z) "zip" := ⟨_, st.z, rfl⟩
  unfold pyNext
  refine wpAny_bind (wpAny_attempt (wpAny_callSpecial?_slot (name := Str.ofString "__next__") hT F.slot_zip_next (wpAny_call_entry F.slot_zip_next hT F.entry_zip_next ?_ (F.args_zip_next_1 _))))
  refine zq_end (A := A.in1) hh S st u1 fun h' tk e hk he => ?_
  obtain ⟨o, ho, hc⟩ := he
  refine wpAny_bind (wpAny_isInstance (T := "StopIteration") (b := true) ⟨o, ho, hc⟩ isSubtype_stop ?_)
  exact wpAny_pure (hQ _ _ hk)
end
theorem turn_zq {P : Program} {w : World} {K : PySem.W.Frag} {n : Nat} {z TI TO i1 i2 i3 i4 t1 t2 t3 t4 : Addr} {x1 x2 x3 x4 : List V} {elts : List Expr} {kk : Nat} {tpos : Pos} (S : Za z TI TO i1 i2 i3 i4 t1 t2 t3 t4) (n1 : x1.length = n) (n2 : x2.length = n) (n3 : x3.length = n) (n4 : x4.length = n) :
    Turn P w K (.Tuple elts kk tpos) (ItzQ K n t1 t2 t3 t4 x1 x2 x3 x4) [z, TI, TO, i1, i2, i3, i4] z (fun i h => Zq h z TI TO i1 i2 i3 i4 t1 t2 t3 t4 i) where
  mem := List.mem_cons_self ..
  obj := fun i h st b hb => by
    obtain ⟨hz, hTI, ⟨a1, a2, a3, a4, hTO⟩, ⟨o1, p1, _, d1⟩, ⟨o2, p2, _, d2⟩, ⟨o3, p3, _, d3⟩, ⟨o4, p4, _, d4⟩⟩ := st
    have hb' : b = z ∨ b = TI ∨ b = TO ∨ b = i1 ∨ b = i2 ∨ b = i3 ∨ b = i4 := by simpa using hb
    rcases hb' with e | e | e | e | e | e | e
    · rw [e]; exact ⟨_, hz, fun v q => nomatch q⟩
    · rw [e]; exact ⟨_, hTI, fun v q => nomatch q⟩
    · rw [e]; exact ⟨_, hTO, fun v q => nomatch q⟩
    · rw [e]; exact ⟨o1, p1, fun v q => by rw [d1] at q; cases q⟩
    · rw [e]; exact ⟨o2, p2, fun v q => by rw [d2] at q; cases q⟩
    · rw [e]; exact ⟨o3, p3, fun v q => by rw [d3] at q; cases q⟩
    · rw [e]; exact ⟨o4, p4, fun v q => by rw [d4] at q; cases q⟩
  keep := fun i h h' st k => by
    obtain ⟨hz, hTI, ⟨a1, a2, a3, a4, hTO⟩, s1, s2, s3, s4⟩ := st
    exact ⟨k z (by simp) _ hz, k TI (by simp) _ hTI, ⟨_, _, _, _, k TO (by simp) _ hTO⟩, s1.at fun o e => k i1 (by simp) o e, s2.at fun o e => k i2 (by simp) o e, s3.at fun o e => k i3 (by simp) o e, s4.at fun o e => k i4 (by simp) o e⟩
  item := by
    intro X hP hw hK hc i pins s σ H E I hf st hg
    subst hP hw hK
    obtain ⟨hi, g1, g2, g3, g4⟩ := hg
    obtain ⟨its1, rv1, p1, _⟩ := I.tuple g1
    have l1 : its1.toArray.size = n := by rw [List.size_toArray, ← rv1.length, n1]
    obtain ⟨its2, rv2, p2, _⟩ := I.tuple g2
    have l2 : its2.toArray.size = n := by rw [List.size_toArray, ← rv2.length, n2]
    obtain ⟨its3, rv3, p3, _⟩ := I.tuple g3
    have l3 : its3.toArray.size = n := by rw [List.size_toArray, ← rv3.length, n3]
    obtain ⟨its4, rv4, p4, _⟩ := I.tuple g4
    have l4 : its4.toArray.size = n := by rw [List.size_toArray, ← rv4.length, n4]
    obtain ⟨hz, hTI, ⟨a1, a2, a3, a4, hTO⟩, s1, s2, s3, s4⟩ := id st
    have zlt : z < s.heap.objs.size := Heap.lt_size hz
    refine next_zq (I.ok.hd hc) S st (show s.heap.IsTuple t1 its1.toArray from p1) (by omega) (show s.heap.IsTuple t2 its2.toArray from p2) (by omega) (show s.heap.IsTuple t3 its3.toArray from p3) (by omega) (show s.heap.IsTuple t4 its4.toArray from p4) (by omega) fun h' tk y1 y2 y3 y4 e1 e2 e3 e4 b1 b2 b3 c1 c2 c3 c4 b4 hk => ?_
    refine ⟨_, rfl, wpAny_letOwnedTupleGo_zip (s := { s with heap := h', toks := tk }) b1 fun h'' z2 sb => ?_⟩
    obtain ⟨v1, ev1⟩ : ∃ v, x1[i]? = some v := ⟨x1[i]'(by omega), List.getElem?_eq_getElem (by omega)⟩
    obtain ⟨y1', ey1, rv1'⟩ := rv1.get ev1
    have q1 : y1' = y1 := by
      have z0 : its1[i]? = some y1 := by simpa using e1
      rw [ey1] at z0
      exact Option.some.inj z0
    rw [q1] at rv1'
    obtain ⟨v2, ev2⟩ : ∃ v, x2[i]? = some v := ⟨x2[i]'(by omega), List.getElem?_eq_getElem (by omega)⟩
    obtain ⟨y2', ey2, rv2'⟩ := rv2.get ev2
    have q2 : y2' = y2 := by
      have z0 : its2[i]? = some y2 := by simpa using e2
      rw [ey2] at z0
      exact Option.some.inj z0
    rw [q2] at rv2'
    obtain ⟨v3, ev3⟩ : ∃ v, x3[i]? = some v := ⟨x3[i]'(by omega), List.getElem?_eq_getElem (by omega)⟩
    obtain ⟨y3', ey3, rv3'⟩ := rv3.get ev3
    have q3 : y3' = y3 := by
      have z0 : its3[i]? = some y3 := by simpa using e3
      rw [ey3] at z0
      exact Option.some.inj z0
    rw [q3] at rv3'
    obtain ⟨v4, ev4⟩ : ∃ v, x4[i]? = some v := ⟨x4[i]'(by omega), List.getElem?_eq_getElem (by omega)⟩
    obtain ⟨y4', ey4, rv4'⟩ := rv4.get ev4
    have q4 : y4' = y4 := by
      have z0 : its4[i]? = some y4 := by simpa using e4
      rw [ey4] at z0
      exact Option.some.inj z0
    rw [q4] at rv4'
    have T2 : Tup4 h'' s.heap.objs.size y1 y2 y3 y4 := (sb.2 _ (Nat.ne_of_gt zlt)).trans b4
    have new : ObjOk X.prog X.w (upd H s.heap.objs.size (.tup [v1, v2, v3, v4])) h'' s.heap.objs.size (.tup [v1, v2, v3, v4]) :=
      ⟨(by show 4 ≤ sizeLine; decide), [y1, y2, y3, y4], .cons rv1' (.cons rv2' (.cons rv3' (.cons rv4' .nil))), _, T2, rfl, _, rfl⟩
    have I1 : Inv X pins σ (upd H s.heap.objs.size (.tup [v1, v2, v3, v4])) { s with heap := h'', toks := tk } :=
      I.turnedNew (ch := [z, TO, i1, i2, i3, i4]) (fun b ob hb e => (sb.2 b (fun q => hb (by simp [q]))).trans (hk b ob (fun q => hb (by simp [q])) (fun q => hb (by simp [q])) (fun q => hb (by simp [q])) (fun q => hb (by simp [q])) (fun q => hb (by simp [q])) (fun q => hb (by simp [q])) e)) (fun b hb => hf b (by
        have hb' : b = z ∨ b = TO ∨ b = i1 ∨ b = i2 ∨ b = i3 ∨ b = i4 := by simpa using hb
        rcases hb' with e | e | e | e | e | e <;> simp [e])) (Nat.le_refl _) new
    refine ⟨.ref s.heap.objs.size, _, I1, rfl, ⟨_, v1, v2, v3, v4, rfl, I.hok.fresh (Nat.le_refl _), rfl, ev1, ev2, ev3, ev4⟩, ?_, fun b hb => ?_⟩
    · exact ⟨z2, (sb.2 _ S.Iz).trans b2, ⟨_, _, _, _, (sb.2 _ S.Oz).trans b3⟩, c1.at fun o e => (sb.2 _ S.zi1.symm).trans e, c2.at fun o e => (sb.2 _ S.zi2.symm).trans e, c3.at fun o e => (sb.2 _ S.zi3.symm).trans e, c4.at fun o e => (sb.2 _ S.zi4.symm).trans e⟩
    · have lt : b < s.heap.objs.size := by
        have hb' : b = z ∨ b = TI ∨ b = TO ∨ b = i1 ∨ b = i2 ∨ b = i3 ∨ b = i4 := by simpa using hb
        obtain ⟨_, m1, _⟩ := s1; obtain ⟨_, m2, _⟩ := s2; obtain ⟨_, m3, _⟩ := s3; obtain ⟨_, m4, _⟩ := s4
        rcases hb' with e | e | e | e | e | e | e
        · rw [e]; exact Heap.lt_size hz
        · rw [e]; exact Heap.lt_size hTI
        · rw [e]; exact Heap.lt_size hTO
        · rw [e]; exact Heap.lt_size m1
        · rw [e]; exact Heap.lt_size m2
        · rw [e]; exact Heap.lt_size m3
        · rw [e]; exact Heap.lt_size m4
      rw [upd_ne (Nat.ne_of_lt lt)]
      exact (hf b hb).1
  done := by
    intro X hP hw hK hc i pins s σ H E I hf st hg
    subst hP hw hK
    obtain ⟨hi, g1, g2, g3, g4⟩ := hg
    obtain ⟨its1, rv1, p1, _⟩ := I.tuple g1
    have l1 : its1.toArray.size = n := by rw [List.size_toArray, ← rv1.length, n1]
    have st1 : Zq s.heap z TI TO i1 i2 i3 i4 t1 t2 t3 t4 its1.toArray.size := by rw [l1, ← hi]; exact st
    refine next_zq_end (I.ok.hd hc) S st1 (show s.heap.IsTuple t1 its1.toArray from p1) fun h' tk hk => ⟨rfl, ?_⟩
    refine I.step (g' := s.gens) (d' := s.drawn) (ch := [z, i1]) (fun b hb => ?_) (fun b o _ _ hb e _ => hk b o (fun q => hb (by simp [q])) (fun q => hb (by simp [q])) e)
      (fun b o _ _ hb e _ => ⟨o.slots, hk b o (fun q => hb (by simp [q])) (fun q => hb (by simp [q])) e⟩) (fun _ _ _ _ n => n) (fun b o hb e => ⟨o, hk b o (fun q => hb (by simp [q])) (fun q => hb (by simp [q])) e⟩) (fun _ _ e => e) (fun _ _ _ e => e) (fun b ps e => ⟨#[], by rw [e]; simp⟩) (fun m hm => ?_) (fun b u e => ?_) I.bare
    · have hb' : b = z ∨ b = i1 := by simpa using hb
      obtain ⟨f0, f1, f2, f3, f4, f5⟩ := hf b (by rcases hb' with e | e <;> simp [e])
      exact ⟨f3, f1, f4, f5⟩
    · obtain ⟨o, es, ep, ho, r⟩ := hm
      exact ⟨o, es, ep, hk _ o (Ne.symm (hf z (by simp)).2.1) (Ne.symm (hf i1 (by simp)).2.1) ho, r⟩
    · have nz : ∀ {c : Addr} {u : HO}, H c = some u → c ≠ z ∧ c ≠ i1 := fun e => ⟨fun q => (by rw [q, (hf z (by simp)).1] at e; cases e), fun q => (by rw [q, (hf i1 (by simp)).1] at e; cases e)⟩
      refine (I.hok b u e).stay (fun c v hc' q => ?_) (fun _ q => q) fun _ _ q => q
      rcases hc' with q1 | q1
      · rw [q1] at q ⊢
        exact hk b v (nz e).1 (nz e).2 q
      · exact hk c v (nz q1).1 (nz q1).2 q
  self := fun A i s Q E st h => wpAny_pyIter_zip st.z h
def iZipQ (K : PySem.W.Frag) (ta : TA) : TI := fun σ H R => ta σ H fun vs H1 => ∃ (a b c d : Addr) (xs ys zs ws : List V), vs = [.ref a, .ref b, .ref c, .ref d] ∧ SqT K H1 a xs ∧ SqT K H1 b ys ∧ SqT K H1 c zs ∧ SqT K H1 d ws ∧
  ys.length = xs.length ∧ zs.length = xs.length ∧ ws.length = xs.length ∧ R (ItzQ K xs.length a b c d xs ys zs ws) H1
theorem pi_zipQ {X : Cx} {e1 e2 e3 e4 : Expr} {ta : TA} {p pos tpos : Pos} {elts : List Expr} {kk : Nat} (hg : Gl X "zip") (hm : X.mg "zip" = none) (ha : PA X [e1, e2, e3, e4] ta)
    (hs : starEach [e1, e2, e3, e4] X.env = (false, eval e1 X.env) :: starEach [e2, e3, e4] X.env := by rfl) (hpl : (backTo pos (starEach [e2, e3, e4] X.env)).any (·.1) = false := by rfl) :
    PI X (.Tuple elts kk tpos) (.Call (.Name "zip" p) [e1, e2, e3, e4] [] pos) (iZipQ X.K ta) := by
  refine ⟨fun pins s σ H R I h => ?_⟩
  refine Call_ (ld_blt I hg hm PyProof.Rows.boot_zip (PyProof.Rows.callWith_type1 (thn (ha.run pos pins s σ H _ I h) fun us s1 ⟨vs, H1, I1, r1, q1⟩ => ?_) hs hpl))
  obtain ⟨a, b, c, d, xs, ys, zs, ws, ex, ga, gb, gc, gd, ly, lz, lw, q⟩ := q1
  subst ex
  cases r1 with
  | cons ra r1 => cases r1 with
    | cons rb r1 => cases r1 with
      | cons rc r1 => cases r1 with
        | cons rd r1 =>
          cases r1
          cases ra
          cases rb
          cases rc
          cases rd
          obtain ⟨j1, _, p1, _⟩ := I1.tuple ga
          obtain ⟨j2, _, p2, _⟩ := I1.tuple gb
          obtain ⟨j3, _, p3, _⟩ := I1.tuple gc
          obtain ⟨j4, _, p4, _⟩ := I1.tuple gd
          refine zip4_begins (show s1.heap.IsTuple a j1.toArray from p1) (show s1.heap.IsTuple b j2.toArray from p2) (show s1.heap.IsTuple c j3.toArray from p3) (show s1.heap.IsTuple d j4.toArray from p4) fun h' st hk => wpAny_pyIter_zip st.z ?_
          have I2 : Inv X pins σ H1 { s1 with heap := h' } := I1.kept (t' := s1.toks) hk
          refine ⟨s1.heap.objs.size + 6, _, _, _, H1, rfl, I2, turn_zq (apart4 p1.lt p2.lt p3.lt p4.lt) rfl ly lz lw, st, fun x hx => ?_, q⟩
          have hx' : x = s1.heap.objs.size + 6 ∨ x = s1.heap.objs.size + 4 ∨ x = s1.heap.objs.size + 5 ∨ x = s1.heap.objs.size ∨ x = s1.heap.objs.size + 1 ∨ x = s1.heap.objs.size + 2 ∨ x = s1.heap.objs.size + 3 := by simpa using hx
          have hle : s1.heap.objs.size ≤ x := by
            rcases hx' with e | e | e | e | e | e | e
            · rw [e]; exact Nat.le_add_right _ _
            · rw [e]; exact Nat.le_add_right _ _
            · rw [e]; exact Nat.le_add_right _ _
            · rw [e]; exact Nat.le_refl _
            · rw [e]; exact Nat.le_add_right _ _
            · rw [e]; exact Nat.le_add_right _ _
            · rw [e]; exact Nat.le_add_right _ _
          exact I1.fpOk hle (I1.hok.fresh hle)
/-- the walk of such a zip -/
theorem walk_zq {K : PySem.W.Frag} {n : Nat} {a b c d : Addr} {xs ys zs ws : List V} : Walk (ItzQ K n a b c d xs ys zs ws) n (fun H => SqT K H a xs ∧ SqT K H b ys ∧ SqT K H c zs ∧ SqT K H d ws)
    (fun i H v H' => ∃ (T : Addr) (y1 y2 y3 y4 : V), v = .ref T ∧ H T = none ∧ H' = upd H T (.tup [y1, y2, y3, y4]) ∧ xs[i]? = some y1 ∧ ys[i]? = some y2 ∧ zs[i]? = some y3 ∧ ws[i]? = some y4) :=
  ⟨fun i H hi g => ⟨hi, g⟩, fun H g => ⟨rfl, g⟩, fun i H x H' hi g y => y⟩
end Fc

set_option Elab.async false
set_option autoImplicit false
set_option linter.all false
/-! Plain mathematics, no program: nodes of a binary tree by (height, number), what is left of a node, the fewest facts. -/
namespace Fc

/-! ### nodes -/
theorem div_two (a h : Nat) : a / 2 ^ (h + 1) = a / 2 ^ h / 2 := by
  rw [Nat.pow_succ, Nat.div_div_eq_div_mul]
theorem child_of (a h n : Nat) : a / 2 ^ (h + 1) = n ↔ a / 2 ^ h = 2 * n ∨ a / 2 ^ h = 2 * n + 1 := by
  rw [div_two]
  omega
/-- (h', n') lies within (h, n) -/
def Ins (h n h' n' : Nat) : Prop := h' ≤ h ∧ n' / 2 ^ (h - h') = n
instance (h n h' n' : Nat) : Decidable (Ins h n h' n') := by
  unfold Ins
  exact inferInstance
theorem Ins.refl (h n : Nat) : Ins h n h n := ⟨Nat.le_refl _, by simp⟩
theorem ins_succ (h n h' n' : Nat) : Ins (h + 1) n h' n' ↔ (h' = h + 1 ∧ n' = n) ∨ Ins h (2 * n) h' n' ∨ Ins h (2 * n + 1) h' n' := by
  unfold Ins
  by_cases e : h' = h + 1
  · subst e
    simp
    omega
  · by_cases l : h' ≤ h
    · have e2 : h + 1 - h' = (h - h') + 1 := by omega
      rw [e2, child_of]
      constructor
      · rintro ⟨_, q | q⟩
        · exact .inr (.inl ⟨l, q⟩)
        · exact .inr (.inr ⟨l, q⟩)
      · rintro (⟨q, _⟩ | ⟨_, q⟩ | ⟨_, q⟩)
        · exact absurd q e
        · exact ⟨by omega, .inl q⟩
        · exact ⟨by omega, .inr q⟩
    · constructor
      · rintro ⟨q, _⟩
        omega
      · rintro (⟨q, _⟩ | ⟨q, _⟩ | ⟨q, _⟩)
        · exact absurd q e
        · exact absurd q l
        · exact absurd q l
theorem ins_zero (n h' n' : Nat) : Ins 0 n h' n' ↔ h' = 0 ∧ n' = n := by
  unfold Ins
  constructor
  · rintro ⟨l, q⟩
    have e : h' = 0 := by omega
    subst e
    simpa using q
  · rintro ⟨rfl, rfl⟩
    simp
/-- a point of a node is of each node above it -/
theorem ins_point (h n h' a : Nat) (l : h' ≤ h) (e : a / 2 ^ h = n) : Ins h n h' (a / 2 ^ h') := by
  refine ⟨l, ?_⟩
  rw [Nat.div_div_eq_div_mul, ← Nat.pow_add]
  have e2 : h' + (h - h') = h := by omega
  rw [e2]
  exact e
theorem point_up {h n h' n' a : Nat} (i : Ins h n h' n') (e : a / 2 ^ h' = n') : a / 2 ^ h = n := by
  obtain ⟨l, q⟩ := i
  rw [← q, ← e, Nat.div_div_eq_div_mul, ← Nat.pow_add]
  have e2 : h' + (h - h') = h := by omega
  rw [e2]
theorem Ins.trans {h n h1 n1 h2 n2 : Nat} (a : Ins h n h1 n1) (b : Ins h1 n1 h2 n2) : Ins h n h2 n2 := by
  obtain ⟨l1, q1⟩ := a
  obtain ⟨l2, q2⟩ := b
  refine ⟨by omega, ?_⟩
  have e : h - h2 = (h1 - h2) + (h - h1) := by omega
  rw [e, Nat.pow_add, ← Nat.div_div_eq_div_mul, q2, q1]
theorem ins_left (h n : Nat) : Ins (h + 1) n h (2 * n) := (ins_succ _ _ _ _).mpr (.inr (.inl (Ins.refl _ _)))
theorem ins_right (h n : Nat) : Ins (h + 1) n h (2 * n + 1) := (ins_succ _ _ _ _).mpr (.inr (.inr (Ins.refl _ _)))
theorem ins_apart {h n h' n' : Nat} (a : Ins h (2 * n) h' n') (b : Ins h (2 * n + 1) h' n') : False := by
  have e1 := a.2
  have e2 := b.2
  omega

/-! ### told nodes, what is left -/
/-- told nodes: by height and number -/
abbrev Told := Nat → Nat → Bool
/-- no told node lower than h holds the point -/
def Free (T : Told) (h a : Nat) : Prop := ∀ h', h' < h → T h' (a / 2 ^ h') = false
/-- what is left of a node below it; what is left of it if it may be told itself -/
def Rest (T : Told) (h n a : Nat) : Prop := a / 2 ^ h = n ∧ Free T h a
def Res (T : Told) (h n a : Nat) : Prop := a / 2 ^ h = n ∧ Free T (h + 1) a
theorem free_succ (T : Told) (h a : Nat) : Free T (h + 1) a ↔ Free T h a ∧ T h (a / 2 ^ h) = false := by
  constructor
  · exact fun f => ⟨fun h' l => f h' (by omega), f h (by omega)⟩
  · rintro ⟨f, e⟩ h' l
    by_cases q : h' = h
    · subst q
      exact e
    · exact f h' (by omega)
theorem res_told {T : Told} {h n a : Nat} (t : T h n = true) : ¬ Res T h n a := by
  rintro ⟨e, f⟩
  have := f h (by omega)
  rw [e, t] at this
  cases this
theorem res_rest {T : Told} {h n a : Nat} (t : T h n = false) : Res T h n a ↔ Rest T h n a := by
  constructor
  · rintro ⟨e, f⟩
    exact ⟨e, ((free_succ _ _ _).mp f).1⟩
  · rintro ⟨e, f⟩
    exact ⟨e, (free_succ _ _ _).mpr ⟨f, by rw [e]; exact t⟩⟩
theorem rest_succ (T : Told) (h n a : Nat) : Rest T (h + 1) n a ↔ Res T h (2 * n) a ∨ Res T h (2 * n + 1) a := by
  unfold Rest Res
  rw [child_of]
  constructor
  · rintro ⟨q | q, f⟩
    · exact .inl ⟨q, f⟩
    · exact .inr ⟨q, f⟩
  · rintro (⟨q, f⟩ | ⟨q, f⟩)
    · exact ⟨.inl q, f⟩
    · exact ⟨.inr q, f⟩
/-- what is left hangs on the nodes within alone -/
theorem res_congr {T T' : Told} {h n a : Nat} (e : ∀ h' n', Ins h n h' n' → T h' n' = T' h' n') : Res T h n a ↔ Res T' h n a := by
  unfold Res
  constructor
  · rintro ⟨q, f⟩
    refine ⟨q, fun h' l => ?_⟩
    rw [← e h' _ (ins_point h n h' a (by omega) q)]
    exact f h' l
  · rintro ⟨q, f⟩
    refine ⟨q, fun h' l => ?_⟩
    rw [e h' _ (ins_point h n h' a (by omega) q)]
    exact f h' l

section
variable (X W : Nat → Bool) (c : Nat)
/-- what is not told of it is known: it has no points, it is full, it lies in one cell, it meets no wanted cell -/
def OkSet (S : Nat → Prop) : Prop := (∀ a, S a → X a = false) ∨ (∀ a, S a → X a = true) ∨ (∃ k, ∀ a, S a → a / 2 ^ c = k) ∨ (∀ a, S a → W a = false)
inductive Wd where
  | bare | full | lone | all | needed
  deriving DecidableEq
def Cond : Wd → (Nat → Prop) → Prop
  | .bare, S => ∀ a, S a → X a = false
  | .full, S => ∀ a, S a → X a = true
  | .lone, S => ∃ k, ∀ a, S a → a / 2 ^ c = k
  | .all, S => ∀ a, ¬ S a
  | .needed, S => ∀ a, S a → W a = false
theorem okSet_of {wd : Wd} {S : Nat → Prop} (h : Cond X W c wd S) : OkSet X W c S := by
  cases wd with
  | bare => exact .inl h
  | full => exact .inr (.inl h)
  | lone => exact .inr (.inr (.inl h))
  | all => exact .inl fun a s => absurd s (h a)
  | needed => exact .inr (.inr (.inr h))
/-- all told nodes within one are right -/
def Good (T : Told) : Nat → Nat → Prop
  | 0, _ => True
  | h + 1, n => Good T h (2 * n) ∧ Good T h (2 * n + 1) ∧ (T (h + 1) n = true → OkSet X W c (Rest T (h + 1) n))
def Solve (wd : Wd) (T : Told) (h n : Nat) : Prop := Good X W c T h n ∧ Cond X W c wd (Res T h n)
theorem cond_congr {wd : Wd} {S S' : Nat → Prop} (e : ∀ a, S a ↔ S' a) : Cond X W c wd S ↔ Cond X W c wd S' := by
  have q : S = S' := funext fun a => propext (e a)
  rw [q]
theorem okSet_congr {S S' : Nat → Prop} (e : ∀ a, S a ↔ S' a) : OkSet X W c S ↔ OkSet X W c S' := by
  have q : S = S' := funext fun a => propext (e a)
  rw [q]
theorem good_congr {T T' : Told} : ∀ {h n : Nat}, (∀ h' n', Ins h n h' n' → T h' n' = T' h' n') → (Good X W c T h n ↔ Good X W c T' h n)
  | 0, _, _ => Iff.rfl
  | h + 1, n, e => by
    have e1 : ∀ h' n', Ins h (2 * n) h' n' → T h' n' = T' h' n' := fun h' n' i => e h' n' ((ins_left h n).trans i)
    have e2 : ∀ h' n', Ins h (2 * n + 1) h' n' → T h' n' = T' h' n' := fun h' n' i => e h' n' ((ins_right h n).trans i)
    have r : ∀ a, Rest T (h + 1) n a ↔ Rest T' (h + 1) n a := fun a => by
      rw [rest_succ, rest_succ, res_congr e1, res_congr e2]
    unfold Good
    rw [good_congr e1, good_congr e2, e _ _ (Ins.refl _ _), okSet_congr X W c r]
theorem solve_congr {wd : Wd} {T T' : Told} {h n : Nat} (e : ∀ h' n', Ins h n h' n' → T h' n' = T' h' n') : Solve X W c wd T h n ↔ Solve X W c wd T' h n := by
  unfold Solve
  rw [good_congr X W c e, cond_congr X W c fun a => res_congr e]

/-! ### cost -/
def b1 (b : Bool) : Nat := if b then 1 else 0
variable (F : Told)
def cost (T : Told) : Nat → Nat → Nat
  | 0, n => b1 (T 0 n && !F 0 n)
  | h + 1, n => b1 (T (h + 1) n && !F (h + 1) n) + (cost T h (2 * n) + cost T h (2 * n + 1))
/-- the cost below a node -/
def costI (T : Told) : Nat → Nat → Nat
  | 0, _ => 0
  | h + 1, n => cost F T h (2 * n) + cost F T h (2 * n + 1)
theorem cost_eq (T : Told) (h n : Nat) : cost F T h n = b1 (T h n && !F h n) + costI F T h n := by
  cases h <;> rfl
/-- one node less told costs one less -/
theorem cost_one {T T' : Told} {x y : Nat} : ∀ {h n : Nat}, (∀ h' n', Ins h n h' n' → ¬ (h' = x ∧ n' = y) → T h' n' = T' h' n') → cost F T h n ≤ cost F T' h n + (if Ins h n x y then 1 else 0)
  | 0, n, e => by
    unfold cost
    by_cases q : x = 0 ∧ y = n
    · obtain ⟨rfl, rfl⟩ := q
      have i : Ins 0 y 0 y := Ins.refl _ _
      rw [if_pos i]
      unfold b1
      split <;> split <;> omega
    · have e' : T 0 n = T' 0 n := e 0 n (Ins.refl _ _) fun z => q ⟨z.1.symm, z.2.symm⟩
      rw [e']
      omega
  | h + 1, n, e => by
    have h1 := cost_one (T := T) (T' := T') (h := h) (n := 2 * n) fun h' n' i => e h' n' ((ins_left h n).trans i)
    have h2 := cost_one (T := T) (T' := T') (h := h) (n := 2 * n + 1) fun h' n' i => e h' n' ((ins_right h n).trans i)
    unfold cost
    by_cases i : Ins (h + 1) n x y
    · rw [if_pos i]
      rcases (ins_succ _ _ _ _).mp i with ⟨rfl, rfl⟩ | j | j
      · have n1 : ¬ Ins h (2 * y) (h + 1) y := fun z => by have := z.1; omega
        have n2 : ¬ Ins h (2 * y + 1) (h + 1) y := fun z => by have := z.1; omega
        rw [if_neg n1] at h1
        rw [if_neg n2] at h2
        unfold b1
        split <;> split <;> omega
      · have n2 : ¬ Ins h (2 * n + 1) x y := fun z => ins_apart j z
        rw [if_pos j] at h1
        rw [if_neg n2] at h2
        have e' : T (h + 1) n = T' (h + 1) n := e _ _ (Ins.refl _ _) fun z => by have := j.1; omega
        rw [e']
        omega
      · have n2 : ¬ Ins h (2 * n) x y := fun z => ins_apart z j
        rw [if_neg n2] at h1
        rw [if_pos j] at h2
        have e' : T (h + 1) n = T' (h + 1) n := e _ _ (Ins.refl _ _) fun z => by have := j.1; omega
        rw [e']
        omega
    · rw [if_neg i]
      have n1 : ¬ Ins h (2 * n) x y := fun z => i ((ins_left h n).trans z)
      have n2 : ¬ Ins h (2 * n + 1) x y := fun z => i ((ins_right h n).trans z)
      rw [if_neg n1] at h1
      rw [if_neg n2] at h2
      have e' : T (h + 1) n = T' (h + 1) n := e _ _ (Ins.refl _ _) fun z => i (by rw [← z.1, ← z.2]; exact Ins.refl _ _)
      rw [e']
      omega
theorem cost_self : ∀ (h n : Nat), cost F F h n = 0
  | 0, n => by unfold cost b1; cases F 0 n <;> rfl
  | h + 1, n => by
    unfold cost
    rw [cost_self h, cost_self h]
    unfold b1
    cases F (h + 1) n <;> rfl
theorem cost_congr {T T' : Told} : ∀ {h n : Nat}, (∀ h' n', Ins h n h' n' → T h' n' = T' h' n') → cost F T h n = cost F T' h n
  | 0, n, e => by unfold cost; rw [e _ _ (Ins.refl _ _)]
  | h + 1, n, e => by
    unfold cost
    rw [e _ _ (Ins.refl _ _), cost_congr fun h' n' i => e h' n' ((ins_left h n).trans i), cost_congr fun h' n' i => e h' n' ((ins_right h n).trans i)]
/-- no cost: nothing is told that was not told before -/
theorem cost_zero {T : Told} (sub : ∀ h n, F h n = true → T h n = true) : ∀ {h n : Nat}, cost F T h n = 0 → ∀ h' n', Ins h n h' n' → T h' n' = F h' n'
  | 0, n, z, h', n', i => by
    obtain ⟨rfl, rfl⟩ := (ins_zero _ _ _).mp i
    unfold cost b1 at z
    cases e : F 0 n' with
    | true => exact sub _ _ e
    | false =>
      rw [e] at z
      cases e2 : T 0 n' with
      | false => rfl
      | true => rw [e2] at z; simp at z
  | h + 1, n, z, h', n', i => by
    unfold cost at z
    rcases (ins_succ _ _ _ _).mp i with ⟨rfl, rfl⟩ | j | j
    · have z' : b1 (T (h + 1) n' && !F (h + 1) n') = 0 := by omega
      unfold b1 at z'
      cases e : F (h + 1) n' with
      | true => exact sub _ _ e
      | false =>
        rw [e] at z'
        cases e2 : T (h + 1) n' with
        | false => rfl
        | true => rw [e2] at z'; simp at z'
    · exact cost_zero sub (by omega) h' n' j
    · exact cost_zero sub (by omega) h' n' j
end
end Fc

set_option Elab.async false
set_option autoImplicit false
set_option linter.all false
/-! The fewest facts: what each function of the search has to give, and that they give it. Rows are lists of nodes by (length, number), length = D - height. -/
namespace Fc
abbrev Rw := List (Nat × Nat)
abbrev Ans := Option (Nat × Rw)
section
variable (X W : Nat → Bool) (c D : Nat) (F : Told)

theorem cond_mono {wd : Wd} {S S' : Nat → Prop} (h : Cond X W c wd S) (s : ∀ a, S' a → S a) : Cond X W c wd S' := by
  cases wd with
  | bare => exact fun a z => h a (s a z)
  | full => exact fun a z => h a (s a z)
  | lone => obtain ⟨k, q⟩ := h; exact ⟨k, fun a z => q a (s a z)⟩
  | all => exact fun a z => h a (s a z)
  | needed => exact fun a z => h a (s a z)
/-- the points of a node -/
abbrev Blk (h n a : Nat) : Prop := a / 2 ^ h = n
theorem good_blk {wd : Wd} (T : Told) : ∀ {h n : Nat}, Cond X W c wd (Blk h n) → Good X W c T h n
  | 0, _, _ => trivial
  | h + 1, n, k => by
    refine ⟨good_blk T (cond_mono X W c k fun a e => (child_of _ _ _).mpr (.inl e)), good_blk T (cond_mono X W c k fun a e => (child_of _ _ _).mpr (.inr e)), fun _ => ?_⟩
    exact okSet_of X W c (cond_mono X W c k fun a r => r.1)
theorem solve_blk {wd : Wd} (T : Told) {h n : Nat} (k : Cond X W c wd (Blk h n)) : Solve X W c wd T h n :=
  ⟨good_blk X W c T k, cond_mono X W c k fun a r => r.1⟩
/-- a node of a cell, or lower: its points are of one cell -/
theorem lone_blk {h n : Nat} (l : h ≤ c) : Cond X W c .lone (Blk h n) := by
  refine ⟨n / 2 ^ (c - h), fun a e => ?_⟩
  have e2 : h + (c - h) = c := by omega
  rw [← e, Nat.div_div_eq_div_mul, ← Nat.pow_add, e2]

/-! ### facts and rows -/
/-- the facts, and the rows told more -/
def TR (rows : Rw) : Told := fun h n => F h n || decide ((D - h, n) ∈ rows)
/-- more than the facts is told -/
def Sub (T : Told) : Prop := ∀ h n, F h n = true → T h n = true
theorem sub_TR (rows : Rw) : Sub F (TR D F rows) := fun h n e => by unfold TR; rw [e]; rfl
/-- rows lie within a node, none is a fact -/
def InR (h n : Nat) (rows : Rw) : Prop := ∀ p ∈ rows, p.1 ≤ D ∧ Ins h n (D - p.1) p.2 ∧ F (D - p.1) p.2 = false
/-- the same, below it -/
def InB (h n : Nat) (rows : Rw) : Prop := ∀ p ∈ rows, p.1 ≤ D ∧ Ins h n (D - p.1) p.2 ∧ D - p.1 < h ∧ F (D - p.1) p.2 = false
theorem InR.nil (h n : Nat) : InR D F h n [] := fun p hp => by cases hp
theorem InB.nil (h n : Nat) : InB D F h n [] := fun p hp => by cases hp
variable {D F}
theorem InR.both {h n : Nat} {r1 r2 : Rw} (a : InR D F h (2 * n) r1) (b : InR D F h (2 * n + 1) r2) : InB D F (h + 1) n (r1 ++ r2) := by
  intro p hp
  rcases List.mem_append.mp hp with q | q
  · obtain ⟨x, y, z⟩ := a p q
    exact ⟨x, (ins_left h n).trans y, by have := y.1; omega, z⟩
  · obtain ⟨x, y, z⟩ := b p q
    exact ⟨x, (ins_right h n).trans y, by have := y.1; omega, z⟩
theorem InB.toR {h n : Nat} {r : Rw} (a : InB D F h n r) : InR D F h n r := fun p hp => let ⟨x, y, _, z⟩ := a p hp; ⟨x, y, z⟩
theorem TR_left {h n : Nat} {r1 r2 : Rw} (hD : h ≤ D) (b : InR D F h (2 * n + 1) r2) : ∀ h' n', Ins h (2 * n) h' n' → TR D F (r1 ++ r2) h' n' = TR D F r1 h' n' := by
  intro h' n' i
  have no : (D - h', n') ∉ r2 := fun q => by
    obtain ⟨_, y, _⟩ := b _ q
    have e : D - (D - h') = h' := by have := i.1; omega
    have y' : Ins h (2 * n + 1) (D - (D - h')) n' := y
    rw [e] at y'
    exact ins_apart i y'
  unfold TR
  simp [no]
theorem TR_right {h n : Nat} {r1 r2 : Rw} (hD : h ≤ D) (b : InR D F h (2 * n) r1) : ∀ h' n', Ins h (2 * n + 1) h' n' → TR D F (r1 ++ r2) h' n' = TR D F r2 h' n' := by
  intro h' n' i
  have no : (D - h', n') ∉ r1 := fun q => by
    obtain ⟨_, y, _⟩ := b _ q
    have e : D - (D - h') = h' := by have := i.1; omega
    have y' : Ins h (2 * n) (D - (D - h')) n' := y
    rw [e] at y'
    exact ins_apart y' i
  unfold TR
  simp [no]
theorem TR_top {h n : Nat} {r : Rw} (hD : h ≤ D) (b : InB D F h n r) : TR D F r h n = F h n := by
  have no : (D - h, n) ∉ r := fun q => by
    obtain ⟨_, y, z, _⟩ := b _ q
    have z' : D - (D - h) < h := z
    omega
  unfold TR
  simp [no]
variable (D F)

/-! ### what each function gives -/
structure Wit (wd : Wd) (h n : Nat) (rows : Rw) : Prop where
  ins : InR D F h n rows
  ok : Solve X W c wd (TR D F rows) h n
def SpecW (wd : Wd) (h n : Nat) (r : Ans) : Prop := ∃ rows : Rw, r = some (rows.length, rows) ∧ Wit X W c D F wd h n rows ∧ ∀ T, Sub F T → Solve X W c wd T h n → rows.length ≤ cost F T h n
def SpecL (h n : Nat) (r : Ans) : Prop := ∃ rows : Rw, r = some (rows.length, rows) ∧ Wit X W c D F .lone h n rows ∧ ∀ T, Sub F T → (∃ a, Res T h n a) → Solve X W c .lone T h n → rows.length ≤ cost F T h n
/-- below a cell: nothing is told more -/
def SpecD (wd : Wd) (h n : Nat) (r : Ans) : Prop := (r = some (0, []) ∧ Solve X W c wd F h n) ∨ (r = none ∧ ¬ Solve X W c wd F h n)
def SpecT (h n : Nat) (r : Nat × Rw) : Prop := ∃ rows : Rw, r = (rows.length, rows) ∧ (InR D F h n rows ∧ TR D F rows h n = true ∧ Good X W c (TR D F rows) h n) ∧ ∀ T, Sub F T → T h n = true → Good X W c T h n → rows.length ≤ cost F T h n
def SpecI (h n : Nat) (r : Nat × Rw) : Prop := ∃ rows : Rw, r = (rows.length, rows) ∧ (InB D F h n rows ∧ ∀ T, (∀ h' n', Ins h n h' n' → h' < h → T h' n' = TR D F rows h' n') → T h n = true → Good X W c T h n) ∧
  ∀ T, Sub F T → T h n = true → Good X W c T h n → rows.length ≤ costI F T h n
/-- the least of some answers -/
def IsLeast (rs : List Ans) (r : Ans) : Prop := (r = none ∧ ∀ x ∈ rs, x = none) ∨ ∃ v, r = some v ∧ some v ∈ rs ∧ ∀ u, some u ∈ rs → v.1 ≤ u.1
def bothM : Ans → Ans → Ans
  | some (a, x), some (b, y) => some (a + b, x ++ y)
  | _, _ => none

variable {X W c D F}
theorem agree_TR_nil (h n : Nat) : TR D F [] h n = F h n := by unfold TR; simp
theorem TR_nil : TR D F [] = F := funext fun h => funext fun n => agree_TR_nil h n
/-- nothing need be told -/
theorem specW_ends {wd : Wd} {h n : Nat} (k : Cond X W c wd (Blk h n)) : SpecW X W c D F wd h n (some (0, [])) :=
  ⟨[], rfl, ⟨InR.nil D F h n, solve_blk X W c _ k⟩, fun _ _ _ => Nat.zero_le _⟩
theorem specL_ends {h n : Nat} (k : h ≤ c) : SpecL X W c D F h n (some (0, [])) :=
  ⟨[], rfl, ⟨InR.nil D F h n, solve_blk X W c _ (lone_blk X W c k)⟩, fun _ _ _ _ => Nat.zero_le _⟩
theorem specD_ends {wd : Wd} {h n : Nat} (k : Cond X W c wd (Blk h n)) : SpecD X W c F wd h n (some (0, [])) := .inl ⟨rfl, solve_blk X W c _ k⟩
theorem specI_ends {wd : Wd} {h n : Nat} (k : Cond X W c wd (Blk h n)) : SpecI X W c D F h n (0, []) :=
  ⟨[], rfl, ⟨InB.nil D F h n, fun T _ _ => good_blk X W c T k⟩, fun _ _ _ _ => Nat.zero_le _⟩

/-- the node itself is told too -/
theorem specT_of {h n : Nat} {r : Nat × Rw} (hD : h ≤ D) (s : SpecI X W c D F h n r) : SpecT X W c D F h n (if F h n = true then r else (r.1 + 1, (D - h, n) :: r.2)) := by
  obtain ⟨rows, rfl, ⟨ib, ok⟩, lb⟩ := s
  by_cases f : F h n = true
  · rw [if_pos f]
    refine ⟨rows, rfl, ⟨ib.toR, by unfold TR; rw [f]; rfl, ok _ (fun _ _ _ _ => rfl) (by unfold TR; rw [f]; rfl)⟩, fun T s t g => ?_⟩
    have := lb T s t g
    rw [cost_eq]
    omega
  · have f' : F h n = false := by simpa using f
    rw [if_neg f]
    have hd : D - (D - h) = h := by omega
    have ir : InR D F h n ((D - h, n) :: rows) := by
      intro p hp
      rcases List.mem_cons.mp hp with rfl | hp
      · refine ⟨by show D - h ≤ D; omega, ?_, ?_⟩
        · show Ins h n (D - (D - h)) n
          rw [hd]
          exact Ins.refl _ _
        · show F (D - (D - h)) n = false
          rw [hd]
          exact f'
      · exact ib.toR p hp
    have t0 : TR D F ((D - h, n) :: rows) h n = true := by unfold TR; simp
    refine ⟨(D - h, n) :: rows, rfl, ⟨ir, t0, ok _ (fun h' n' i l => ?_) t0⟩, fun T s t g => ?_⟩
    · unfold TR
      have ne : ¬ ((D - h', n') = (D - h, n)) := fun z => by
        have e1 : D - h' = D - h := congrArg Prod.fst z
        have e2 := i.1
        omega
      simp [ne]
    · have := lb T s t g
      rw [cost_eq]
      have e : b1 (T h n && !F h n) = 1 := by rw [t, f']; rfl
      rw [List.length_cons, e]
      omega

/-! ### two halves -/
theorem cond_res_rest {wd : Wd} {T : Told} {h n : Nat} (t : T h n = false) : Cond X W c wd (Res T h n) ↔ Cond X W c wd (Rest T h n) := cond_congr X W c fun a => res_rest t
/-- words that go down unchanged -/
theorem cond_split {wd : Wd} (nl : wd ≠ .lone) {T : Told} {h n : Nat} : Cond X W c wd (Rest T (h + 1) n) ↔ Cond X W c wd (Res T h (2 * n)) ∧ Cond X W c wd (Res T h (2 * n + 1)) := by
  have e : ∀ {P : Nat → Prop}, (∀ a, Rest T (h + 1) n a → P a) ↔ (∀ a, Res T h (2 * n) a → P a) ∧ ∀ a, Res T h (2 * n + 1) a → P a := fun {P} => by
    constructor
    · exact fun q => ⟨fun a z => q a ((rest_succ T h n a).mpr (.inl z)), fun a z => q a ((rest_succ T h n a).mpr (.inr z))⟩
    · rintro ⟨q1, q2⟩ a z
      rcases (rest_succ T h n a).mp z with z | z
      · exact q1 a z
      · exact q2 a z
  cases wd with
  | lone => exact absurd rfl nl
  | bare => exact e
  | full => exact e
  | all => exact e
  | needed => exact e
/-- the lone word: one half has all, the other nothing -/
theorem lone_split {T : Told} {h n : Nat} (hc : c ≤ h) (ne : ∃ a, Rest T (h + 1) n a) (k : Cond X W c .lone (Rest T (h + 1) n)) :
    ((∃ a, Res T h (2 * n) a) ∧ Cond X W c .lone (Res T h (2 * n)) ∧ Cond X W c .all (Res T h (2 * n + 1))) ∨ (Cond X W c .all (Res T h (2 * n)) ∧ (∃ a, Res T h (2 * n + 1) a) ∧ Cond X W c .lone (Res T h (2 * n + 1))) := by
  obtain ⟨k, q⟩ := k
  have e2 : c + (h - c) = h := by omega
  have up : ∀ a, a / 2 ^ c = k → a / 2 ^ h = k / 2 ^ (h - c) := fun a e => by rw [← e, Nat.div_div_eq_div_mul, ← Nat.pow_add, e2]
  obtain ⟨a, ra⟩ := ne
  have ea := up a (q a ra)
  rcases (rest_succ T h n a).mp ra with l | l
  · have e3 := l.1
    refine .inl ⟨⟨a, l⟩, ⟨k, fun b z => q b ((rest_succ T h n b).mpr (.inl z))⟩, fun b z => ?_⟩
    have e4 := up b (q b ((rest_succ T h n b).mpr (.inr z)))
    have e5 := z.1
    omega
  · have e3 := l.1
    refine .inr ⟨fun b z => ?_, ⟨a, l⟩, ⟨k, fun b z => q b ((rest_succ T h n b).mpr (.inr z))⟩⟩
    have e4 := up b (q b ((rest_succ T h n b).mpr (.inl z)))
    have e5 := z.1
    omega
theorem lone_join1 {T : Told} {h n : Nat} (a : Cond X W c .lone (Res T h (2 * n))) (b : Cond X W c .all (Res T h (2 * n + 1))) : Cond X W c .lone (Rest T (h + 1) n) := by
  obtain ⟨k, q⟩ := a
  refine ⟨k, fun x z => ?_⟩
  rcases (rest_succ T h n x).mp z with z | z
  · exact q x z
  · exact absurd z (b x)
theorem lone_join2 {T : Told} {h n : Nat} (b : Cond X W c .all (Res T h (2 * n))) (a : Cond X W c .lone (Res T h (2 * n + 1))) : Cond X W c .lone (Rest T (h + 1) n) := by
  obtain ⟨k, q⟩ := a
  refine ⟨k, fun x z => ?_⟩
  rcases (rest_succ T h n x).mp z with z | z
  · exact absurd z (b x)
  · exact q x z

/-- an answer for two halves, in two ways: within told nodes all is right, what is left of each is so; no fewer do -/
def SpecB (w1 w2 : Wd) (h n : Nat) (r : Ans) : Prop := ∃ rows : Rw, r = some (rows.length, rows) ∧ InB D F (h + 1) n rows ∧
  (∀ T, (∀ h' n', Ins (h + 1) n h' n' → h' < h + 1 → T h' n' = TR D F rows h' n') → Solve X W c w1 T h (2 * n) ∧ Solve X W c w2 T h (2 * n + 1)) ∧
  ∀ T, Sub F T → (w1 = .lone → ∃ a, Res T h (2 * n) a) → (w2 = .lone → ∃ a, Res T h (2 * n + 1) a) → Solve X W c w1 T h (2 * n) → Solve X W c w2 T h (2 * n + 1) → rows.length ≤ cost F T h (2 * n) + cost F T h (2 * n + 1)
/-- an answer of a half -/
def SpecX (wd : Wd) (h n : Nat) (r : Ans) : Prop := (wd = .lone ∧ SpecL X W c D F h n r) ∨ (wd ≠ .lone ∧ SpecW X W c D F wd h n r)
theorem specB_of {w1 w2 : Wd} {h n : Nat} {r1 r2 : Ans} (hD : h ≤ D) (a : SpecX (X := X) (W := W) (c := c) (D := D) (F := F) w1 h (2 * n) r1) (b : SpecX (X := X) (W := W) (c := c) (D := D) (F := F) w2 h (2 * n + 1) r2) :
    SpecB (X := X) (W := W) (c := c) (D := D) (F := F) w1 w2 h n (bothM r1 r2) := by
  have cut : ∀ {wd : Wd} {n : Nat} {r : Ans}, SpecX (X := X) (W := W) (c := c) (D := D) (F := F) wd h n r → ∃ rows : Rw, r = some (rows.length, rows) ∧ Wit X W c D F wd h n rows ∧ ∀ T, Sub F T → (wd = .lone → ∃ a, Res T h n a) → Solve X W c wd T h n → rows.length ≤ cost F T h n := by
    intro wd n r s
    rcases s with ⟨rfl, rows, e, wt, lb⟩ | ⟨nl, rows, e, wt, lb⟩
    · exact ⟨rows, e, wt, fun T s z g => lb T s (z rfl) g⟩
    · exact ⟨rows, e, wt, fun T s _ g => lb T s g⟩
  obtain ⟨x, rfl, ⟨i1, o1⟩, l1⟩ := cut a
  obtain ⟨y, rfl, ⟨i2, o2⟩, l2⟩ := cut b
  refine ⟨x ++ y, by simp [bothM], i1.both i2, fun T e => ?_, fun T s z1 z2 g1 g2 => ?_⟩
  · have e1 : ∀ h' n', Ins h (2 * n) h' n' → T h' n' = TR D F x h' n' := fun h' n' i => by
      rw [e h' n' ((ins_left h n).trans i) (by have := i.1; omega)]
      exact TR_left hD i2 h' n' i
    have e2 : ∀ h' n', Ins h (2 * n + 1) h' n' → T h' n' = TR D F y h' n' := fun h' n' i => by
      rw [e h' n' ((ins_right h n).trans i) (by have := i.1; omega)]
      exact TR_right hD i1 h' n' i
    exact ⟨(solve_congr X W c e1).mpr o1, (solve_congr X W c e2).mpr o2⟩
  · have := l1 T s z1 g1
    have := l2 T s z2 g2
    rw [List.length_append]
    omega
end
end Fc

set_option Elab.async false
set_option autoImplicit false
set_option linter.all false
/-! The search's functions give what they have to. -/
namespace Fc
section
variable {X W : Nat → Bool} {c D : Nat} {F : Told}
theorem IsLeast.mem {rs : List Ans} {r : Ans} (h : IsLeast rs r) {v : Nat × Rw} (e : r = some v) : some v ∈ rs ∧ ∀ u, some u ∈ rs → v.1 ≤ u.1 := by
  rcases h with ⟨n, _⟩ | ⟨w, q, m, l⟩
  · rw [e] at n
    cases n
  · rw [e] at q
    cases q
    exact ⟨m, l⟩
theorem IsLeast.some {rs : List Ans} {r : Ans} (h : IsLeast rs r) {u : Nat × Rw} (m : some u ∈ rs) : ∃ v, r = some v ∧ some v ∈ rs ∧ ∀ u, some u ∈ rs → v.1 ≤ u.1 := by
  rcases h with ⟨_, a⟩ | q
  · have := a _ m
    cases this
  · exact q
/-- the join of the two halves' words -/
theorem join_words {w1 w2 : Wd} {T : Told} {h n : Nat} {wd : Wd} (j : (w1 = wd ∧ w2 = wd ∧ wd ≠ .lone) ∨ (wd = .lone ∧ ((w1 = .lone ∧ w2 = .all) ∨ (w1 = .all ∧ w2 = .lone))))
    (a : Cond X W c w1 (Res T h (2 * n))) (b : Cond X W c w2 (Res T h (2 * n + 1))) : Cond X W c wd (Rest T (h + 1) n) := by
  rcases j with ⟨rfl, rfl, nl⟩ | ⟨rfl, ⟨rfl, rfl⟩ | ⟨rfl, rfl⟩⟩
  · exact (cond_split nl).mpr ⟨a, b⟩
  · exact lone_join1 a b
  · exact lone_join2 a b
/-- told, and then all within -/
theorem specI_within {h n : Nat} (hc : c ≤ h) {r1 r2 r3 r4 r5 r : Ans} (b1 : SpecB (X := X) (W := W) (c := c) (D := D) (F := F) .bare .bare h n r1) (b2 : SpecB (X := X) (W := W) (c := c) (D := D) (F := F) .full .full h n r2)
    (b3 : SpecB (X := X) (W := W) (c := c) (D := D) (F := F) .lone .all h n r3) (b4 : SpecB (X := X) (W := W) (c := c) (D := D) (F := F) .all .lone h n r4) (b5 : SpecB (X := X) (W := W) (c := c) (D := D) (F := F) .needed .needed h n r5)
    (l : IsLeast [r1, r2, r3, r4, r5] r) : ∃ v, r = some v ∧ SpecI X W c D F (h + 1) n v := by
  have ok : ∀ {w1 w2 : Wd} {q : Ans} {v : Nat × Rw} (wd : Wd), ((w1 = wd ∧ w2 = wd ∧ wd ≠ .lone) ∨ (wd = .lone ∧ ((w1 = .lone ∧ w2 = .all) ∨ (w1 = .all ∧ w2 = .lone)))) → SpecB (X := X) (W := W) (c := c) (D := D) (F := F) w1 w2 h n q → q = Option.some v →
      ∃ rows : Rw, v = (rows.length, rows) ∧ InB D F (h + 1) n rows ∧ ∀ T, (∀ h' n', Ins (h + 1) n h' n' → h' < h + 1 → T h' n' = TR D F rows h' n') → T (h + 1) n = true → Good X W c T (h + 1) n := by
    intro w1 w2 q v wd j s e
    obtain ⟨rows, e1, ib, g, _⟩ := s
    rw [e1] at e
    cases e
    refine ⟨rows, rfl, ib, fun T ag t => ?_⟩
    obtain ⟨g1, g2⟩ := g T ag
    exact ⟨g1.1, g2.1, fun _ => okSet_of X W c (join_words j g1.2 g2.2)⟩
  obtain ⟨rows1, e1, _, _, lb1⟩ := id b1
  obtain ⟨rows2, e2, _, _, lb2⟩ := id b2
  obtain ⟨rows3, e3, _, _, lb3⟩ := id b3
  obtain ⟨rows4, e4, _, _, lb4⟩ := id b4
  obtain ⟨rows5, e5, _, _, lb5⟩ := id b5
  obtain ⟨v, ev, mv, lv⟩ := l.some (u := (rows1.length, rows1)) (by rw [e1]; simp)
  have le1 := lv (rows1.length, rows1) (by rw [e1]; simp)
  have le2 := lv (rows2.length, rows2) (by rw [e2]; simp)
  have le3 := lv (rows3.length, rows3) (by rw [e3]; simp)
  have le4 := lv (rows4.length, rows4) (by rw [e4]; simp)
  have le5 := lv (rows5.length, rows5) (by rw [e5]; simp)
  have wit : ∃ rows : Rw, v = (rows.length, rows) ∧ InB D F (h + 1) n rows ∧ ∀ T, (∀ h' n', Ins (h + 1) n h' n' → h' < h + 1 → T h' n' = TR D F rows h' n') → T (h + 1) n = true → Good X W c T (h + 1) n := by
    have m : r1 = Option.some v ∨ r2 = Option.some v ∨ r3 = Option.some v ∨ r4 = Option.some v ∨ r5 = Option.some v := by
      simpa [eq_comm] using mv
    rcases m with m | m | m | m | m
    · exact ok .bare (.inl ⟨rfl, rfl, by decide⟩) b1 m
    · exact ok .full (.inl ⟨rfl, rfl, by decide⟩) b2 m
    · exact ok .lone (.inr ⟨rfl, .inl ⟨rfl, rfl⟩⟩) b3 m
    · exact ok .lone (.inr ⟨rfl, .inr ⟨rfl, rfl⟩⟩) b4 m
    · exact ok .needed (.inl ⟨rfl, rfl, by decide⟩) b5 m
  obtain ⟨rows, rfl, ib, g⟩ := wit
  refine ⟨_, ev, rows, rfl, ⟨ib, g⟩, fun T s t gd => ?_⟩
  obtain ⟨gl, gr, gs⟩ := gd
  have both : ∀ {wd : Wd}, wd ≠ .lone → Cond X W c wd (Rest T (h + 1) n) → Solve X W c wd T h (2 * n) ∧ Solve X W c wd T h (2 * n + 1) := fun nl k => by
    obtain ⟨k1, k2⟩ := (cond_split nl).mp k
    exact ⟨⟨gl, k1⟩, gr, k2⟩
  show rows.length ≤ cost F T h (2 * n) + cost F T h (2 * n + 1)
  have bare : Cond X W c .bare (Rest T (h + 1) n) → rows.length ≤ cost F T h (2 * n) + cost F T h (2 * n + 1) := fun k => by
    obtain ⟨s1, s2⟩ := both (by decide) k
    exact Nat.le_trans le1 (lb1 T s (fun z => by cases z) (fun z => by cases z) s1 s2)
  rcases gs t with k | k | k | k
  · exact bare k
  · obtain ⟨s1, s2⟩ := both (wd := .full) (by decide) k
    exact Nat.le_trans le2 (lb2 T s (fun z => by cases z) (fun z => by cases z) s1 s2)
  · by_cases ne : ∃ a, Rest T (h + 1) n a
    · rcases lone_split hc ne k with ⟨n1, k1, k2⟩ | ⟨k1, n2, k2⟩
      · exact Nat.le_trans le3 (lb3 T s (fun _ => n1) (fun z => by cases z) ⟨gl, k1⟩ ⟨gr, k2⟩)
      · exact Nat.le_trans le4 (lb4 T s (fun z => by cases z) (fun _ => n2) ⟨gl, k1⟩ ⟨gr, k2⟩)
    · exact bare fun a z => absurd ⟨a, z⟩ ne
  · obtain ⟨s1, s2⟩ := both (wd := .needed) (by decide) k
    exact Nat.le_trans le5 (lb5 T s (fun z => by cases z) (fun z => by cases z) s1 s2)
theorem good_up {wd : Wd} {T : Told} {h n : Nat} (g1 : Good X W c T h (2 * n)) (g2 : Good X W c T h (2 * n + 1)) (k : Cond X W c wd (Rest T (h + 1) n)) : Solve X W c wd T (h + 1) n := by
  refine ⟨⟨g1, g2, fun _ => okSet_of X W c k⟩, cond_mono X W c k fun a z => ⟨z.1, ((free_succ _ _ _).mp z.2).1⟩⟩
theorem cond_told {wd : Wd} {T : Told} {h n : Nat} (t : T h n = true) : Cond X W c wd (Res T h n) := by
  have no : ∀ a, ¬ Res T h n a := fun a => res_told t
  cases wd with
  | bare => exact fun a z => absurd z (no a)
  | full => exact fun a z => absurd z (no a)
  | lone => exact ⟨0, fun a z => absurd z (no a)⟩
  | all => exact no
  | needed => exact fun a z => absurd z (no a)
/-- a way of a node above the cells -/
theorem specW_way {wd : Wd} (nl : wd ≠ .lone) {h n : Nat} (hD : h + 1 ≤ D) {t : Nat × Rw} {b r : Ans} (st : SpecT X W c D F (h + 1) n t) (sb : SpecB (X := X) (W := W) (c := c) (D := D) (F := F) wd wd h n b) (l : IsLeast [some t, b] r) :
    SpecW X W c D F wd (h + 1) n r := by
  obtain ⟨x, rfl, ⟨ix, tx, gx⟩, lx⟩ := st
  obtain ⟨y, rfl, iy, gy, ly⟩ := sb
  obtain ⟨v, ev, mv, lv⟩ := l.some (u := (x.length, x)) (by simp)
  have l1 := lv (x.length, x) (by simp)
  have l2 := lv (y.length, y) (by simp)
  have lb : ∀ T, Sub F T → Solve X W c wd T (h + 1) n → v.1 ≤ cost F T (h + 1) n := fun T s g => by
    cases t : T (h + 1) n with
    | true => exact Nat.le_trans l1 (lx T s t g.1)
    | false =>
      have k := (cond_split nl).mp ((cond_res_rest t).mp g.2)
      have := ly T s (fun z => absurd z nl) (fun z => absurd z nl) ⟨g.1.1, k.1⟩ ⟨g.1.2.1, k.2⟩
      rw [cost_eq]
      have e : costI F T (h + 1) n = cost F T h (2 * n) + cost F T h (2 * n + 1) := rfl
      have l2' : v.1 ≤ y.length := l2
      omega
  have m : v = (x.length, x) ∨ v = (y.length, y) := by simpa using mv
  rcases m with rfl | rfl
  · exact ⟨x, ev, ⟨ix, gx, cond_told tx⟩, lb⟩
  · refine ⟨y, ev, ⟨iy.toR, ?_⟩, lb⟩
    obtain ⟨s1, s2⟩ := gy (TR D F y) fun _ _ _ _ => rfl
    exact good_up s1.1 s2.1 ((cond_split nl).mpr ⟨s1.2, s2.2⟩)
/-- the lone way of a node above the cells -/
theorem specL_way {h n : Nat} (hc : c ≤ h) {b1 b2 r : Ans} (s1 : SpecB (X := X) (W := W) (c := c) (D := D) (F := F) .lone .all h n b1) (s2 : SpecB (X := X) (W := W) (c := c) (D := D) (F := F) .all .lone h n b2) (l : IsLeast [b1, b2] r) :
    SpecL X W c D F (h + 1) n r := by
  obtain ⟨x, rfl, ix, gx, lx⟩ := s1
  obtain ⟨y, rfl, iy, gy, ly⟩ := s2
  obtain ⟨v, ev, mv, lv⟩ := l.some (u := (x.length, x)) (by simp)
  have l1 : v.1 ≤ x.length := lv (x.length, x) (by simp)
  have l2 : v.1 ≤ y.length := lv (y.length, y) (by simp)
  have lb : ∀ T, Sub F T → (∃ a, Res T (h + 1) n a) → Solve X W c .lone T (h + 1) n → v.1 ≤ cost F T (h + 1) n := fun T s ne g => by
    have t : T (h + 1) n = false := by
      cases t : T (h + 1) n with
      | false => rfl
      | true =>
        obtain ⟨a, ra⟩ := ne
        exact absurd ra (res_told t)
    have ne' : ∃ a, Rest T (h + 1) n a := let ⟨a, ra⟩ := ne; ⟨a, (res_rest t).mp ra⟩
    rw [cost_eq]
    have e : costI F T (h + 1) n = cost F T h (2 * n) + cost F T h (2 * n + 1) := rfl
    rcases lone_split hc ne' ((cond_res_rest t).mp g.2) with ⟨n1, k1, k2⟩ | ⟨k1, n2, k2⟩
    · have := lx T s (fun _ => n1) (fun z => by cases z) ⟨g.1.1, k1⟩ ⟨g.1.2.1, k2⟩
      omega
    · have := ly T s (fun z => by cases z) (fun _ => n2) ⟨g.1.1, k1⟩ ⟨g.1.2.1, k2⟩
      omega
  have m : v = (x.length, x) ∨ v = (y.length, y) := by simpa using mv
  rcases m with rfl | rfl
  · refine ⟨x, ev, ⟨ix.toR, ?_⟩, lb⟩
    obtain ⟨z1, z2⟩ := gx (TR D F x) fun _ _ _ _ => rfl
    exact good_up z1.1 z2.1 (lone_join1 z1.2 z2.2)
  · refine ⟨y, ev, ⟨iy.toR, ?_⟩, lb⟩
    obtain ⟨z1, z2⟩ := gy (TR D F y) fun _ _ _ _ => rfl
    exact good_up z1.1 z2.1 (lone_join2 z1.2 z2.2)
/-! ### cells and what lies below -/
/-- both halves, below a cell -/
theorem specD_both {wd : Wd} (nl : wd ≠ .lone) {h n : Nat} {r1 r2 : Ans} (a : SpecD X W c F wd h (2 * n) r1) (b : SpecD X W c F wd h (2 * n + 1) r2) :
    (bothM r1 r2 = some (0, []) ∧ Solve X W c wd F h (2 * n) ∧ Solve X W c wd F h (2 * n + 1)) ∨ (bothM r1 r2 = none ∧ ¬ (Solve X W c wd F h (2 * n) ∧ Solve X W c wd F h (2 * n + 1))) := by
  rcases a with ⟨rfl, s1⟩ | ⟨rfl, s1⟩
  · rcases b with ⟨rfl, s2⟩ | ⟨rfl, s2⟩
    · exact .inl ⟨rfl, s1, s2⟩
    · exact .inr ⟨rfl, fun z => s2 z.2⟩
  · refine .inr ⟨?_, fun z => s1 z.1⟩
    cases r2 <;> rfl
/-- no told node below: what is left is the whole -/
theorem res_bare {h n : Nat} (e : ∀ h' n', Ins h n h' n' → F h' n' = false) (a : Nat) (q : a / 2 ^ h = n) : Res F h n a :=
  ⟨q, fun h' l => e h' _ (ins_point h n h' a (by omega) q)⟩
theorem cond_whole {wd : Wd} {h n : Nat} (e : ∀ h' n', Ins h n h' n' → F h' n' = false) (k : Cond X W c wd (Res F h n)) : Cond X W c wd (Blk h n) :=
  cond_mono X W c k fun a q => res_bare e a q
/-- solve of the facts alone, by the halves -/
theorem solve_halves {wd : Wd} (nl : wd ≠ .lone) {T : Told} {h n : Nat} (f : T (h + 1) n = false) : Solve X W c wd T (h + 1) n ↔ Solve X W c wd T h (2 * n) ∧ Solve X W c wd T h (2 * n + 1) := by
  constructor
  · intro g
    have k := (cond_split nl).mp ((cond_res_rest f).mp g.2)
    exact ⟨⟨g.1.1, k.1⟩, g.1.2.1, k.2⟩
  · rintro ⟨s1, s2⟩
    exact good_up s1.1 s2.1 ((cond_split nl).mpr ⟨s1.2, s2.2⟩)
end
end Fc

set_option Elab.async false
set_option autoImplicit false
set_option linter.all false
/-! Cells, what lies below them, the root; none of the fewest facts can be left out. -/
namespace Fc
section
variable {X W : Nat → Bool} {c D : Nat} {F : Told}
/-- the answers of the two halves, where they are asked (there are facts below), below a cell -/
def Halves (X W : Nat → Bool) (c : Nat) (F : Told) (wd : Wd) (h n : Nat) (rs : List Ans) : Prop :=
  (rs = [] ∧ ∀ h' n', Ins h n h' n' → h' < h → F h' n' = false) ∨
  ∃ h0 b, h = h0 + 1 ∧ rs = [b] ∧ ((b = some (0, []) ∧ Solve X W c wd F h0 (2 * n) ∧ Solve X W c wd F h0 (2 * n + 1)) ∨ (b = none ∧ ¬ (Solve X W c wd F h0 (2 * n) ∧ Solve X W c wd F h0 (2 * n + 1))))
theorem inside_false {h n : Nat} (f : F h n = false) (e : ∀ h' n', Ins h n h' n' → h' < h → F h' n' = false) : ∀ h' n', Ins h n h' n' → F h' n' = false := by
  intro h' n' i
  by_cases l : h' < h
  · exact e h' n' i l
  · have q : h' = h := by have := i.1; omega
    subst q
    have q2 : n' = n := by
      have := i.2
      simpa using this
    subst q2
    exact f
theorem solve_F_of_halves {wd : Wd} (nl : wd ≠ .lone) {h n : Nat} {rs : List Ans} (hb : Halves X W c F wd h n rs) (hne : ¬ Cond X W c wd (Blk h n)) (f : F h n = false) : Solve X W c wd F h n ↔ rs = [some (0, [])] := by
  rcases hb with ⟨rfl, e⟩ | ⟨h0, b, rfl, rfl, ⟨rfl, s⟩ | ⟨rfl, s⟩⟩
  · constructor
    · intro g
      exact absurd (cond_whole (inside_false f e) g.2) hne
    · intro z
      cases z
  · exact ⟨fun _ => rfl, fun _ => (solve_halves nl f).mpr s⟩
  · constructor
    · intro g
      exact absurd ((solve_halves nl f).mp g) s
    · intro z
      cases z
theorem solve_F_up {wd : Wd} (nl : wd ≠ .lone) {h n : Nat} {rs : List Ans} (hb : Halves X W c F wd h n rs) {v : Nat × Rw} (m : some v ∈ rs) : v = (0, []) ∧ Solve X W c wd F h n := by
  rcases hb with ⟨rfl, e⟩ | ⟨h0, b, rfl, rfl, ⟨rfl, s⟩ | ⟨rfl, s⟩⟩
  · cases m
  · have e : v = (0, []) := by simpa using m
    exact ⟨e, good_up s.1.1 s.2.1 ((cond_split nl).mpr ⟨s.1.2, s.2.2⟩)⟩
  · simp at m
theorem specW_cell {wd : Wd} (nl : wd ≠ .lone) {h n : Nat} (hne : ¬ Cond X W c wd (Blk h n)) {t : Nat × Rw} (st : SpecT X W c D F h n t) (t1 : t.1 ≤ 1) {rs : List Ans} (hb : Halves X W c F wd h n rs) {r : Ans} (l : IsLeast (some t :: rs) r) : SpecW X W c D F wd h n r := by
  obtain ⟨x, rfl, ⟨ix, tx, gx⟩, lx⟩ := st
  obtain ⟨v, ev, mv, lv⟩ := l.some (u := (x.length, x)) (by simp)
  have l1 : v.1 ≤ x.length := lv (x.length, x) (by simp)
  have lb : ∀ T, Sub F T → Solve X W c wd T h n → v.1 ≤ cost F T h n := fun T s g => by
    cases t : T h n with
    | true => exact Nat.le_trans l1 (lx T s t g.1)
    | false =>
      by_cases z : cost F T h n = 0
      · have ag := cost_zero F s z
        have g' := (solve_congr X W c ag).mp g
        have f : F h n = false := by rw [← ag h n (Ins.refl _ _)]; exact t
        have e := (solve_F_of_halves nl hb hne f).mp g'
        have := lv (0, []) (by rw [e]; simp)
        omega
      · have t1' : x.length ≤ 1 := t1
        omega
  rcases List.mem_cons.mp mv with e | e
  · cases e
    exact ⟨x, ev, ⟨ix, gx, cond_told tx⟩, lb⟩
  · obtain ⟨rfl, s⟩ := solve_F_up nl hb e
    refine ⟨[], ev, ⟨InR.nil D F h n, ?_⟩, lb⟩
    rw [TR_nil]
    exact s
theorem specD_cell {wd : Wd} (nl : wd ≠ .lone) {h n : Nat} (hc : h ≤ c) (hne : ¬ Cond X W c wd (Blk h n)) {rs : List Ans} (hb : Halves X W c F wd h n rs) {r : Ans} (l : IsLeast ((if F h n = true then [some (0, [])] else []) ++ rs) r) : SpecD X W c F wd h n r := by
  have zero : ∀ {v : Nat × Rw}, some v ∈ (if F h n = true then [some (0, [])] else []) ++ rs → v = (0, []) := by
    intro v m
    rcases List.mem_append.mp m with m | m
    · split at m
      · simpa using m
      · cases m
    · exact (solve_F_up nl hb m).1
  cases f : F h n with
  | true =>
    obtain ⟨v, ev, mv, lv⟩ := l.some (u := (0, [])) (by rw [f]; simp)
    rw [zero mv] at ev
    exact .inl ⟨ev, good_blk X W c F (lone_blk X W c hc), cond_told f⟩
  | false =>
    rw [f] at l
    have l' : IsLeast rs r := by simpa using l
    have q := solve_F_of_halves nl hb hne f
    rcases l' with ⟨e, a⟩ | ⟨v, ev, mv, lv⟩
    · refine .inr ⟨e, fun g => ?_⟩
      have := a (some (0, [])) (by rw [q.mp g]; simp)
      cases this
    · obtain ⟨rfl, s⟩ := solve_F_up nl hb mv
      exact .inl ⟨ev, s⟩
/-- a wanted cell: nothing unwanted in it -/
theorem specW_needed {n : Nat} {r : Ans} (w : ∀ a, a / 2 ^ c = n → W a = true) (s : SpecW X W c D F .all c n r) : SpecW X W c D F .needed c n r := by
  have e : ∀ T, Solve X W c .needed T c n ↔ Solve X W c .all T c n := fun T => by
    constructor
    · rintro ⟨g, k⟩
      refine ⟨g, fun a z => ?_⟩
      have := k a z
      rw [w a z.1] at this
      cases this
    · rintro ⟨g, k⟩
      exact ⟨g, fun a z => absurd z (k a)⟩
  obtain ⟨rows, er, ⟨i, o⟩, lb⟩ := s
  exact ⟨rows, er, ⟨i, (e _).mpr o⟩, fun T s g => lb T s ((e T).mp g)⟩
/-- the root: not told, or told -/
theorem root_least {h n : Nat} {r1 r : Ans} {t : Nat × Rw} (s1 : SpecW X W c D F .needed h n r1) (s2 : SpecT X W c D F h n t) (l : IsLeast [r1, some t] r) : SpecW X W c D F .needed h n r := by
  obtain ⟨x, rfl, wx, lx⟩ := s1
  obtain ⟨y, rfl, ⟨iy, ty, gy⟩, ly⟩ := s2
  obtain ⟨v, ev, mv, lv⟩ := l.some (u := (x.length, x)) (by simp)
  have l1 : v.1 ≤ x.length := lv (x.length, x) (by simp)
  have lb : ∀ T, Sub F T → Solve X W c .needed T h n → v.1 ≤ cost F T h n := fun T s g => Nat.le_trans l1 (lx T s g)
  have m : v = (x.length, x) ∨ v = (y.length, y) := by simpa using mv
  rcases m with rfl | rfl
  · exact ⟨x, ev, wx, lb⟩
  · exact ⟨y, ev, ⟨iy, gy, cond_told ty⟩, lb⟩
/-- rows cost at most their number -/
theorem cost_rows {h n : Nat} (hD : h ≤ D) : ∀ rows : Rw, cost F (TR D F rows) h n ≤ rows.length
  | [] => by
    rw [TR_nil, cost_self]
    exact Nat.zero_le _
  | p :: rows => by
    have ih := cost_rows (n := n) hD rows
    have q := cost_one (F := F) (T := TR D F (p :: rows)) (T' := TR D F rows) (x := D - p.1) (y := p.2) (h := h) (n := n) fun h' n' i ne => by
      unfold TR
      by_cases z : (D - h', n') = p
      · exfalso
        have hd := i.1
        refine ne ⟨?_, ?_⟩
        · rw [← z]
          show h' = D - (D - h')
          omega
        · rw [← z]
      · simp [z]
    rw [List.length_cons]
    split at q <;> omega
/-- none of the rows can be left out -/
theorem none_less {rows : Rw} (lb : ∀ T, Sub F T → Solve X W c .needed T D 0 → rows.length ≤ cost F T D 0) {x : Nat × Nat} (hx : x ∈ rows) : ¬ Solve X W c .needed (TR D F (rows.filter fun y => decide (y ≠ x))) D 0 := by
  intro g
  have l1 := lb _ (sub_TR D F _) g
  have l2 := cost_rows (F := F) (h := D) (n := 0) (Nat.le_refl D) (rows.filter fun y => decide (y ≠ x))
  have l3 : (rows.filter fun y => decide (y ≠ x)).length < rows.length := by
    rw [List.length_filter_lt_length_iff_exists]
    exact ⟨x, hx, by simp⟩
  omega
/-- nothing is told more exactly if the facts do -/
theorem none_iff {rows : Rw} (w : Wit X W c D F .needed D 0 rows) (lb : ∀ T, Sub F T → Solve X W c .needed T D 0 → rows.length ≤ cost F T D 0) : rows = [] ↔ Solve X W c .needed F D 0 := by
  constructor
  · rintro rfl
    have o := w.ok
    rw [TR_nil] at o
    exact o
  · intro g
    have l := lb F (fun _ _ e => e) g
    rw [cost_self] at l
    exact List.length_eq_zero_iff.mp (by omega)
end
end Fc

set_option Elab.async false
set_option autoImplicit false
set_option linter.all false
/-! Counts, and what all clouds with the facts have alike. -/
namespace Fc
/-- how many points of a node a predicate holds of -/
def cR (f : Nat → Bool) : Nat → Nat → Nat
  | 0, n => b1 (f n)
  | h + 1, n => cR f h (2 * n) + cR f h (2 * n + 1)
theorem cR_congr {f g : Nat → Bool} : ∀ {h n : Nat}, (∀ a, a / 2 ^ h = n → f a = g a) → cR f h n = cR g h n
  | 0, n, e => by unfold cR; rw [e n (by simp)]
  | h + 1, n, e => by
    unfold cR
    rw [cR_congr fun a q => e a ((child_of _ _ _).mpr (.inl q)), cR_congr fun a q => e a ((child_of _ _ _).mpr (.inr q))]
theorem cR_zero {f : Nat → Bool} : ∀ {h n : Nat}, (∀ a, a / 2 ^ h = n → f a = false) → cR f h n = 0
  | 0, n, e => by unfold cR; rw [e n (by simp)]; rfl
  | h + 1, n, e => by
    unfold cR
    rw [cR_zero fun a q => e a ((child_of _ _ _).mpr (.inl q)), cR_zero fun a q => e a ((child_of _ _ _).mpr (.inr q))]
theorem cR_zero_iff {f : Nat → Bool} : ∀ {h n : Nat}, cR f h n = 0 ↔ ∀ a, a / 2 ^ h = n → f a = false
  | 0, n => by
    unfold cR b1
    constructor
    · intro z a e
      have e' : a = n := by simpa using e
      subst e'
      cases q : f a with
      | false => rfl
      | true => rw [q] at z; simp at z
    · intro e
      rw [e n (by simp)]
      rfl
  | h + 1, n => by
    constructor
    · intro z a e
      unfold cR at z
      rcases (child_of _ _ _).mp e with q | q
      · exact cR_zero_iff.mp (by omega) a q
      · exact cR_zero_iff.mp (by omega) a q
    · exact fun e => cR_zero e
theorem cR_split (f g : Nat → Bool) : ∀ h n : Nat, cR f h n = cR (fun a => f a && g a) h n + cR (fun a => f a && !g a) h n
  | 0, n => by unfold cR b1; cases f n <;> cases g n <;> rfl
  | h + 1, n => by
    unfold cR
    rw [cR_split f g h (2 * n), cR_split f g h (2 * n + 1)]
    omega
theorem cR_le {f g : Nat → Bool} {h n : Nat} (e : ∀ a, a / 2 ^ h = n → f a = true → g a = true) : cR f h n ≤ cR g h n := by
  rw [cR_split g f h n]
  have q : cR f h n = cR (fun a => g a && f a) h n := cR_congr fun a z => by
    cases y : f a with
    | false => simp
    | true => rw [e a z y]; rfl
  omega
theorem cR_size : ∀ h n : Nat, cR (fun _ => true) h n = 2 ^ h
  | 0, _ => rfl
  | h + 1, n => by unfold cR; rw [cR_size, cR_size, Nat.pow_succ]; omega
/-- equal to the whole: it holds of all -/
theorem cR_full {f g : Nat → Bool} {h n : Nat} (e : cR (fun a => f a && g a) h n = cR g h n) : ∀ a, a / 2 ^ h = n → g a = true → f a = true := by
  intro a q z
  have s := cR_split g f h n
  have s2 : cR (fun a => g a && f a) h n = cR (fun a => f a && g a) h n := cR_congr fun a _ => Bool.and_comm _ _
  have z0 : cR (fun a => g a && !f a) h n = 0 := by omega
  have := cR_zero_iff.mp z0 a q
  rw [z] at this
  cases y : f a with
  | true => rfl
  | false => rw [y] at this; cases this
/-- counting up from below -/
def cl (f : Nat → Bool) : Nat → Nat
  | 0 => 0
  | m + 1 => cl f m + b1 (f m)
theorem cl_cR (f : Nat → Bool) : ∀ h n : Nat, cl f (n * 2 ^ h) + cR f h n = cl f (n * 2 ^ h + 2 ^ h)
  | 0, n => by simp [cl, cR]
  | h + 1, n => by
    have a := cl_cR f h (2 * n)
    have b := cl_cR f h (2 * n + 1)
    unfold cR
    have e1 : 2 * n * 2 ^ h = n * 2 ^ (h + 1) := by rw [Nat.pow_succ, Nat.mul_comm 2 n, Nat.mul_assoc, Nat.mul_comm 2]
    have e2 : (2 * n + 1) * 2 ^ h = n * 2 ^ (h + 1) + 2 ^ h := by rw [Nat.add_mul, e1, Nat.one_mul]
    have e3 : n * 2 ^ (h + 1) + 2 ^ h + 2 ^ h = n * 2 ^ (h + 1) + 2 ^ (h + 1) := by rw [Nat.pow_succ]; omega
    rw [e1] at a
    rw [e2, e3] at b
    omega
/-- the count of a cell, within a node above it -/
theorem cR_cell (f : Nat → Bool) (c k : Nat) : ∀ {h n : Nat}, Ins h n c k → cR (fun a => f a && decide (a / 2 ^ c = k)) h n = cR f c k
  | 0, n, i => by
    obtain ⟨rfl, rfl⟩ := (ins_zero _ _ _).mp i
    unfold cR
    simp
  | h + 1, n, i => by
    rcases (ins_succ _ _ _ _).mp i with ⟨rfl, rfl⟩ | j | j
    · refine cR_congr fun a q => ?_
      simp [q]
    · have z : cR (fun a => f a && decide (a / 2 ^ c = k)) h (2 * n + 1) = 0 := cR_zero fun a q => by
        have ne : ¬ (a / 2 ^ c = k) := fun e => by
          have := point_up j e
          omega
        simp [ne]
      show cR _ h (2 * n) + cR _ h (2 * n + 1) = _
      rw [z, cR_cell f c k j]
      omega
    · have z : cR (fun a => f a && decide (a / 2 ^ c = k)) h (2 * n) = 0 := cR_zero fun a q => by
        have ne : ¬ (a / 2 ^ c = k) := fun e => by
          have := point_up j e
          omega
        simp [ne]
      show cR _ h (2 * n) + cR _ h (2 * n + 1) = _
      rw [z, cR_cell f c k j]
      omega
/-- one point changed -/
def put (f : Nat → Bool) (u : Nat) (t : Bool) : Nat → Bool := fun a => if a = u then t else f a
theorem cR_put (f : Nat → Bool) (u : Nat) (t : Bool) : ∀ h n : Nat, cR (put f u t) h n + (if u / 2 ^ h = n then b1 (f u) else 0) = cR f h n + (if u / 2 ^ h = n then b1 t else 0)
  | 0, n => by
    unfold cR put
    by_cases e : u = n
    · subst e
      simp
      omega
    · have e2 : ¬ n = u := fun z => e z.symm
      simp [e, e2]
  | h + 1, n => by
    have a := cR_put f u t h (2 * n)
    have b := cR_put f u t h (2 * n + 1)
    unfold cR
    by_cases e : u / 2 ^ (h + 1) = n
    · rw [if_pos e, if_pos e]
      rcases (child_of _ _ _).mp e with q | q
      · have q2 : ¬ (u / 2 ^ h = 2 * n + 1) := by omega
        rw [if_pos q, if_pos q] at a
        rw [if_neg q2, if_neg q2] at b
        omega
      · have q2 : ¬ (u / 2 ^ h = 2 * n) := by omega
        rw [if_neg q2, if_neg q2] at a
        rw [if_pos q, if_pos q] at b
        omega
    · have q1 : ¬ (u / 2 ^ h = 2 * n) := fun z => e ((child_of _ _ _).mpr (.inl z))
      have q2 : ¬ (u / 2 ^ h = 2 * n + 1) := fun z => e ((child_of _ _ _).mpr (.inr z))
      rw [if_neg e, if_neg e]
      rw [if_neg q1, if_neg q1] at a
      rw [if_neg q2, if_neg q2] at b
      omega

/-! ### free points, as a test -/
def fB (T : Told) (h a : Nat) : Bool := (List.range h).all fun h' => !T h' (a / 2 ^ h')
theorem fB_iff (T : Told) (h a : Nat) : fB T h a = true ↔ Free T h a := by
  unfold fB Free
  rw [List.all_eq_true]
  constructor
  · intro e h' l
    have := e h' (List.mem_range.mpr l)
    simpa using this
  · intro e h' l
    rw [e h' (List.mem_range.mp l)]
    rfl
theorem fB_succ (T : Told) (h a : Nat) : fB T (h + 1) a = (fB T h a && !T h (a / 2 ^ h)) := by
  unfold fB
  rw [List.range_succ, List.all_append]
  simp

section
variable {X : Nat → Bool} {nd : Nat → Bool} {c D : Nat} {T : Told}
/-- the points of wanted cells -/
abbrev Wn (nd : Nat → Bool) (c : Nat) : Nat → Bool := fun a => nd (a / 2 ^ c)
/-- in all clouds with the told counts the wanted cells' counts are the same -/
def Sees (X nd : Nat → Bool) (c D : Nat) (T : Told) : Prop :=
  ∀ Y : Nat → Bool, (∀ h n, Ins D 0 h n → T h n = true → cR Y h n = cR X h n) → ∀ k, Ins D 0 c k → nd k = true → cR Y c k = cR X c k
/-- what told nodes cover counts alike -/
theorem cover_all {Y : Nat → Bool} (ag : ∀ h n, Ins D 0 h n → T h n = true → cR Y h n = cR X h n) : ∀ {h n : Nat}, Ins D 0 h n → cR (fun a => Y a && !fB T (h + 1) a) h n = cR (fun a => X a && !fB T (h + 1) a) h n
  | h, n, i => by
    cases t : T h n with
    | true =>
      have e : ∀ Z : Nat → Bool, cR (fun a => Z a && !fB T (h + 1) a) h n = cR Z h n := fun Z => cR_congr fun a q => by
        rw [fB_succ, q, t]
        simp
      rw [e, e]
      exact ag h n i t
    | false =>
      have e : ∀ Z : Nat → Bool, cR (fun a => Z a && !fB T (h + 1) a) h n = cR (fun a => Z a && !fB T h a) h n := fun Z => cR_congr fun a q => by
        rw [fB_succ, q, t]
        simp
      rw [e, e]
      match h, i with
      | 0, i => rw [cR_zero fun a q => (by simp [fB]), cR_zero fun a q => (by simp [fB])]
      | h + 1, i =>
        show cR _ h (2 * n) + cR _ h (2 * n + 1) = cR _ h (2 * n) + cR _ h (2 * n + 1)
        rw [cover_all ag (i.trans (ins_left h n)), cover_all ag (i.trans (ins_right h n))]
/-- .. within a wanted cell too -/
theorem cover_cell {Y : Nat → Bool} (ag : ∀ h n, Ins D 0 h n → T h n = true → cR Y h n = cR X h n) {k : Nat} (hk : nd k = true) : ∀ {h n : Nat}, Ins D 0 h n → Good X (Wn nd c) c T h n →
    cR (fun a => (Y a && decide (a / 2 ^ c = k)) && !fB T (h + 1) a) h n = cR (fun a => (X a && decide (a / 2 ^ c = k)) && !fB T (h + 1) a) h n
  | h, n, i, g => by
    cases t : T h n with
    | false =>
      have e : ∀ Z : Nat → Bool, cR (fun a => (Z a && decide (a / 2 ^ c = k)) && !fB T (h + 1) a) h n = cR (fun a => (Z a && decide (a / 2 ^ c = k)) && !fB T h a) h n := fun Z => cR_congr fun a q => by
        rw [fB_succ, q, t]
        simp
      rw [e, e]
      match h, i, g with
      | 0, i, g => rw [cR_zero fun a q => (by simp [fB]), cR_zero fun a q => (by simp [fB])]
      | h + 1, i, g =>
        show cR _ h (2 * n) + cR _ h (2 * n + 1) = cR _ h (2 * n) + cR _ h (2 * n + 1)
        rw [cover_cell ag hk (i.trans (ins_left h n)) g.1, cover_cell ag hk (i.trans (ins_right h n)) g.2.1]
    | true =>
      have e : ∀ Z : Nat → Bool, cR (fun a => (Z a && decide (a / 2 ^ c = k)) && !fB T (h + 1) a) h n = cR (fun a => Z a && decide (a / 2 ^ c = k)) h n := fun Z => cR_congr fun a q => by
        rw [fB_succ, q, t]
        simp
      rw [e, e]
      have tot := ag h n i t
      match h, i, g, t, tot with
      | 0, i, g, t, tot =>
        unfold cR at tot ⊢
        unfold b1 at tot ⊢
        cases y : Y n <;> cases x : X n <;> rw [y, x] at tot <;> simp at tot <;> simp
      | h + 1, i, g, t, tot =>
        have s : ∀ Z : Nat → Bool, cR Z (h + 1) n = cR (fun a => Z a && fB T (h + 1) a) (h + 1) n + (cR (fun a => Z a && !fB T (h + 1) a) h (2 * n) + cR (fun a => Z a && !fB T (h + 1) a) h (2 * n + 1)) := fun Z => cR_split Z (fB T (h + 1)) (h + 1) n
        have c1 := cover_all (X := X) ag (i.trans (ins_left h n))
        have c2 := cover_all (X := X) ag (i.trans (ins_right h n))
        have d1 := cover_cell ag hk (i.trans (ins_left h n)) g.1
        have d2 := cover_cell ag hk (i.trans (ins_right h n)) g.2.1
        have rest : cR (fun a => Y a && fB T (h + 1) a) (h + 1) n = cR (fun a => X a && fB T (h + 1) a) (h + 1) n := by
          have s1 := s Y
          have s2 := s X
          omega
        have fin : cR (fun a => (Y a && decide (a / 2 ^ c = k)) && fB T (h + 1) a) (h + 1) n = cR (fun a => (X a && decide (a / 2 ^ c = k)) && fB T (h + 1) a) (h + 1) n := by
          have inR : ∀ a, a / 2 ^ (h + 1) = n → fB T (h + 1) a = true → Rest T (h + 1) n a := fun a q z => ⟨q, (fB_iff _ _ _).mp z⟩
          have none : (∀ a, Rest T (h + 1) n a → decide (a / 2 ^ c = k) = false) → cR (fun a => (Y a && decide (a / 2 ^ c = k)) && fB T (h + 1) a) (h + 1) n = cR (fun a => (X a && decide (a / 2 ^ c = k)) && fB T (h + 1) a) (h + 1) n := fun no => by
            have zz : ∀ Z : Nat → Bool, cR (fun a => (Z a && decide (a / 2 ^ c = k)) && fB T (h + 1) a) (h + 1) n = 0 := fun Z => cR_zero fun a q => by
              cases z : fB T (h + 1) a with
              | false => simp
              | true => rw [no a (inR a q z)]; simp
            rw [zz, zz]
          rcases g.2.2 t with o | o | ⟨k0, o⟩ | o
          · have x0 : cR (fun a => X a && fB T (h + 1) a) (h + 1) n = 0 := cR_zero fun a q => by
              cases z : fB T (h + 1) a with
              | false => simp
              | true => rw [o a (inR a q z)]; rfl
            have y0 := cR_zero_iff.mp (rest.trans x0)
            refine cR_congr fun a q => ?_
            have := y0 a q
            cases z : fB T (h + 1) a with
            | false => simp
            | true =>
              rw [z] at this
              rw [o a (inR a q z)]
              have e0 : Y a = false := by simpa using this
              rw [e0]
          · have x1 : cR (fun a => X a && fB T (h + 1) a) (h + 1) n = cR (fB T (h + 1)) (h + 1) n := cR_congr fun a q => by
              cases z : fB T (h + 1) a with
              | false => simp
              | true => rw [o a (inR a q z)]; rfl
            have y1 := cR_full (rest.trans x1)
            refine cR_congr fun a q => ?_
            cases z : fB T (h + 1) a with
            | false => simp
            | true => rw [o a (inR a q z), y1 a q z]
          · by_cases ek : k0 = k
            · have zz : ∀ Z : Nat → Bool, cR (fun a => (Z a && decide (a / 2 ^ c = k)) && fB T (h + 1) a) (h + 1) n = cR (fun a => Z a && fB T (h + 1) a) (h + 1) n := fun Z => cR_congr fun a q => by
                cases z : fB T (h + 1) a with
                | false => simp
                | true => rw [(o a (inR a q z)).trans ek]; simp
              rw [zz, zz]
              exact rest
            · exact none fun a r => by rw [o a r]; simpa using ek
          · refine none fun a r => ?_
            have w := o a r
            cases z : decide (a / 2 ^ c = k) with
            | false => rfl
            | true =>
              have e0 : a / 2 ^ c = k := of_decide_eq_true z
              have w' : nd (a / 2 ^ c) = false := w
              rw [e0, hk] at w'
              cases w'
        have s1 := s fun a => Y a && decide (a / 2 ^ c = k)
        have s2 := s fun a => X a && decide (a / 2 ^ c = k)
        omega
theorem sees_of (hc : c ≤ D) (g : Solve X (Wn nd c) c .needed T D 0) : Sees X nd c D T := by
  intro Y ag k ik hk
  have cov := cover_cell (c := c) ag hk (Ins.refl D 0) g.1
  have z : ∀ Z : Nat → Bool, cR (fun a => (Z a && decide (a / 2 ^ c = k)) && fB T (D + 1) a) D 0 = 0 := fun Z => cR_zero fun a q => by
    cases f : fB T (D + 1) a with
    | false => simp
    | true =>
      have w := g.2 a ⟨q, (fB_iff _ _ _).mp f⟩
      cases e : decide (a / 2 ^ c = k) with
      | false => simp
      | true =>
        have w' : nd (a / 2 ^ c) = false := w
        rw [of_decide_eq_true e, hk] at w'
        cases w'
  have s1 := cR_split (fun a => Y a && decide (a / 2 ^ c = k)) (fB T (D + 1)) D 0
  have s2 := cR_split (fun a => X a && decide (a / 2 ^ c = k)) (fB T (D + 1)) D 0
  have z1 := z Y
  have z2 := z X
  rw [← cR_cell Y c k ik, ← cR_cell X c k ik]
  omega
end
end Fc

set_option Elab.async false
set_option autoImplicit false
set_option linter.all false
/-! Where the facts are not enough, two clouds have them and differ in a wanted cell. -/
namespace Fc
section
variable {X : Nat → Bool} {nd : Nat → Bool} {c D : Nat} {T : Told}
theorem put_same (f : Nat → Bool) (u : Nat) (t : Bool) : put f u t u = t := by unfold put; simp
theorem put_ne (f : Nat → Bool) {u a : Nat} (t : Bool) (h : a ≠ u) : put f u t a = f a := by unfold put; simp [h]
/-- two unlike points change places -/
def swap (f : Nat → Bool) (u v : Nat) : Nat → Bool := put (put f u (f v)) v (f u)
theorem cR_swap (f : Nat → Bool) {u v : Nat} (ne : f u ≠ f v) (h n : Nat) (e : u / 2 ^ h = n ↔ v / 2 ^ h = n) : cR (swap f u v) h n = cR f h n := by
  have nuv : v ≠ u := fun z => ne (by rw [z])
  have a := cR_put f u (f v) h n
  have b := cR_put (put f u (f v)) v (f u) h n
  rw [put_ne f (f v) nuv] at b
  unfold swap
  by_cases q : u / 2 ^ h = n
  · rw [if_pos q, if_pos q] at a
    rw [if_pos (e.mp q), if_pos (e.mp q)] at b
    omega
  · rw [if_neg q, if_neg q] at a
    rw [if_neg (fun z => q (e.mpr z)), if_neg (fun z => q (e.mpr z))] at b
    omega
theorem b1_ne {a b : Bool} (h : a ≠ b) : b1 a ≠ b1 b := by
  cases a <;> cases b <;> simp_all [b1]
theorem cR_swap_ne (f : Nat → Bool) {u v : Nat} (ne : f u ≠ f v) (h n : Nat) (hu : u / 2 ^ h = n) (hv : v / 2 ^ h ≠ n) : cR (swap f u v) h n ≠ cR f h n := by
  have nuv : v ≠ u := fun z => ne (by rw [z])
  have a := cR_put f u (f v) h n
  have b := cR_put (put f u (f v)) v (f u) h n
  rw [if_pos hu, if_pos hu] at a
  rw [if_neg hv, if_neg hv] at b
  unfold swap
  have := b1_ne ne
  omega
/-- a told node, not right -/
theorem not_good : ∀ {h n : Nat}, ¬ Good X (Wn nd c) c T h n → ∃ h' n', Ins h n h' n' ∧ T h' n' = true ∧ ¬ OkSet X (Wn nd c) c (Rest T h' n')
  | 0, n, g => absurd trivial g
  | h + 1, n, g => by
    by_cases g1 : Good X (Wn nd c) c T h (2 * n)
    · by_cases g2 : Good X (Wn nd c) c T h (2 * n + 1)
      · have g3 : ¬ (T (h + 1) n = true → OkSet X (Wn nd c) c (Rest T (h + 1) n)) := fun z => g ⟨g1, g2, z⟩
        have t : T (h + 1) n = true := by
          cases t : T (h + 1) n with
          | true => rfl
          | false => exact absurd (fun z => by rw [t] at z; cases z) g3
        exact ⟨h + 1, n, Ins.refl _ _, t, fun o => g3 fun _ => o⟩
      · obtain ⟨h', n', i, r⟩ := not_good g2
        exact ⟨h', n', (ins_right h n).trans i, r⟩
    · obtain ⟨h', n', i, r⟩ := not_good g1
      exact ⟨h', n', (ins_left h n).trans i, r⟩
theorem told_both {h n : Nat} {u v : Nat} (hu : Rest T h n u) (hv : Rest T h n v) {h' n' : Nat} (t : T h' n' = true) : u / 2 ^ h' = n' → v / 2 ^ h' = n' := by
  intro e
  by_cases l : h' < h
  · have := hu.2 h' l
    rw [e, t] at this
    cases this
  · have e2 : h + (h' - h) = h' := by omega
    have a1 : u / 2 ^ h' = u / 2 ^ h / 2 ^ (h' - h) := by rw [Nat.div_div_eq_div_mul, ← Nat.pow_add, e2]
    have a2 : v / 2 ^ h' = v / 2 ^ h / 2 ^ (h' - h) := by rw [Nat.div_div_eq_div_mul, ← Nat.pow_add, e2]
    rw [a2, hv.1, ← hu.1, ← a1]
    exact e
theorem solve_of (hc : c ≤ D) (s : Sees X nd c D T) : Solve X (Wn nd c) c .needed T D 0 := by
  have good : Good X (Wn nd c) c T D 0 := by
    refine Classical.byContradiction fun ng => ?_
    obtain ⟨h, n, i, t, no⟩ := not_good ng
    have n1 : ¬ ∀ a, Rest T h n a → X a = false := fun z => no (.inl z)
    have n2 : ¬ ∀ a, Rest T h n a → X a = true := fun z => no (.inr (.inl z))
    have n3 : ¬ ∃ k, ∀ a, Rest T h n a → a / 2 ^ c = k := fun z => no (.inr (.inr (.inl z)))
    have n4 : ¬ ∀ a, Rest T h n a → Wn nd c a = false := fun z => no (.inr (.inr (.inr z)))
    obtain ⟨a, ha⟩ := Classical.not_forall.mp n4
    obtain ⟨ra, wa⟩ : Rest T h n a ∧ Wn nd c a = true := by
      by_cases r : Rest T h n a
      · exact ⟨r, by cases q : Wn nd c a with | true => rfl | false => exact absurd (fun _ => q) ha⟩
      · exact absurd (fun z => absurd z r) ha
    have n3' : ¬ ∀ b, Rest T h n b → b / 2 ^ c = a / 2 ^ c := fun z => n3 ⟨_, z⟩
    obtain ⟨b, hb⟩ := Classical.not_forall.mp n3'
    obtain ⟨rb, nb⟩ : Rest T h n b ∧ b / 2 ^ c ≠ a / 2 ^ c := by
      by_cases r : Rest T h n b
      · exact ⟨r, fun z => hb fun _ => z⟩
      · exact absurd (fun z => absurd z r) hb
    have other : ∀ t : Bool, ∃ y, Rest T h n y ∧ X y ≠ t := by
      intro t
      refine Classical.byContradiction fun z => ?_
      have z' : ∀ y, Rest T h n y → X y = t := fun y ry => by
        by_cases q : X y = t
        · exact q
        · exact absurd ⟨y, ry, q⟩ z
      cases t with
      | true => exact n2 z'
      | false => exact n1 z'
    have pair : ∃ u v, Rest T h n u ∧ Rest T h n v ∧ u / 2 ^ c = a / 2 ^ c ∧ v / 2 ^ c ≠ a / 2 ^ c ∧ X u ≠ X v := by
      by_cases e : X a = X b
      · obtain ⟨y, ry, hy⟩ := other (X a)
        by_cases q : y / 2 ^ c = a / 2 ^ c
        · exact ⟨y, b, ry, rb, q, nb, fun z => hy (by rw [z, e])⟩
        · exact ⟨a, y, ra, ry, rfl, q, fun z => hy z.symm⟩
      · exact ⟨a, b, ra, rb, rfl, nb, e⟩
    obtain ⟨u, v, ru, rv, eu, ev, ne⟩ := pair
    have ag : ∀ h' n', Ins D 0 h' n' → T h' n' = true → cR (swap X u v) h' n' = cR X h' n' := fun h' n' i' t' =>
      cR_swap X ne h' n' ⟨told_both ru rv t', told_both rv ru t'⟩
    have iu : Ins D 0 c (a / 2 ^ c) := ins_point D 0 c a hc (point_up i ra.1)
    exact cR_swap_ne X ne c (a / 2 ^ c) eu ev (s _ ag (a / 2 ^ c) iu wa)
  refine ⟨good, fun a r => ?_⟩
  cases w : Wn nd c a with
  | false => rfl
  | true =>
    exfalso
    have ag : ∀ h' n', Ins D 0 h' n' → T h' n' = true → cR (put X a (!X a)) h' n' = cR X h' n' := fun h' n' i t => by
      have q := cR_put X a (!X a) h' n'
      have ne : ¬ (a / 2 ^ h' = n') := fun e => by
        have := r.2 h' (by have := i.1; omega)
        rw [e, t] at this
        cases this
      rw [if_neg ne, if_neg ne] at q
      omega
    have q := cR_put X a (!X a) c (a / 2 ^ c)
    rw [if_pos rfl, if_pos rfl] at q
    have e := s _ ag (a / 2 ^ c) (ins_point D 0 c a hc r.1) w
    cases x : X a <;> rw [x] at q e <;> unfold b1 at q <;> simp at q e <;> omega
theorem sees_iff (hc : c ≤ D) : Sees X nd c D T ↔ Solve X (Wn nd c) c .needed T D 0 := ⟨solve_of hc, sees_of hc⟩

/-! ### one cell: known exactly if each rest tells -/
/-- the numbers of a rest: its points, its places, its places in a cell -/
def lQ (X : Nat → Bool) (T : Told) (h n : Nat) : Nat := cR (fun a => X a && fB T h a) h n
def rQ (T : Told) (h n : Nat) : Nat := cR (fB T h) h n
def iQ (T : Told) (c k h n : Nat) : Nat := cR (fun a => decide (a / 2 ^ c = k) && fB T h a) h n
/-- the least and the greatest number of a rest in the cell are the same -/
def TellsQ (X : Nat → Bool) (T : Told) (c k h n : Nat) : Prop := lQ X T h n = 0 ∨ lQ X T h n = rQ T h n ∨ iQ T c k h n = 0 ∨ iQ T c k h n = rQ T h n
theorem lQ_le (X : Nat → Bool) (T : Told) (h n : Nat) : lQ X T h n ≤ rQ T h n := cR_le fun a _ e => by
  cases z : fB T h a with
  | true => rfl
  | false => rw [z] at e; simp at e
theorem iQ_le (T : Told) (c k h n : Nat) : iQ T c k h n ≤ rQ T h n := cR_le fun a _ e => by
  cases z : fB T h a with
  | true => rfl
  | false => rw [z] at e; simp at e
theorem tellsQ_iff {k h n : Nat} : TellsQ X T c k h n ↔ (∀ a, Rest T h n a → X a = false) ∨ (∀ a, Rest T h n a → X a = true) ∨ (∀ a, Rest T h n a → a / 2 ^ c ≠ k) ∨ ∀ a, Rest T h n a → a / 2 ^ c = k := by
  have zero : ∀ f : Nat → Bool, cR (fun a => f a && fB T h a) h n = 0 ↔ ∀ a, Rest T h n a → f a = false := fun f => by
    rw [cR_zero_iff]
    constructor
    · intro e a r
      have := e a r.1
      rw [(fB_iff T h a).mpr r.2] at this
      simpa using this
    · intro e a q
      cases z : fB T h a with
      | false => simp
      | true => rw [e a ⟨q, (fB_iff T h a).mp z⟩]; rfl
  have full : ∀ f : Nat → Bool, cR (fun a => f a && fB T h a) h n = rQ T h n ↔ ∀ a, Rest T h n a → f a = true := fun f => by
    constructor
    · exact fun e a r => cR_full e a r.1 ((fB_iff T h a).mpr r.2)
    · intro e
      refine cR_congr fun a q => ?_
      cases z : fB T h a with
      | false => simp
      | true => rw [e a ⟨q, (fB_iff T h a).mp z⟩]; rfl
  unfold TellsQ lQ iQ
  rw [zero, full, zero, full]
  simp only [decide_eq_true_eq, decide_eq_false_iff_not]
/-- all wanted cells known -/
theorem known_iff (hc : c ≤ D) : ((∀ k, Ins D 0 c k → nd k = true → (T D 0 = false → iQ T c k D 0 = 0) ∧ ∀ h n, Ins D 0 h n → T h n = true → TellsQ X T c k h n) ↔ Solve X (Wn nd c) c .needed T D 0) := by
  constructor
  · intro kn
    have good : Good X (Wn nd c) c T D 0 := by
      refine Classical.byContradiction fun ng => ?_
      obtain ⟨h, n, i, t, no⟩ := not_good ng
      have n4 : ¬ ∀ a, Rest T h n a → Wn nd c a = false := fun z => no (.inr (.inr (.inr z)))
      obtain ⟨a, ha⟩ := Classical.not_forall.mp n4
      obtain ⟨ra, wa⟩ : Rest T h n a ∧ Wn nd c a = true := by
        by_cases r : Rest T h n a
        · exact ⟨r, by cases q : Wn nd c a with | true => rfl | false => exact absurd (fun _ => q) ha⟩
        · exact absurd (fun z => absurd z r) ha
      have iu : Ins D 0 c (a / 2 ^ c) := ins_point D 0 c a hc (point_up i ra.1)
      rcases tellsQ_iff.mp ((kn _ iu wa).2 h n i t) with z | z | z | z
      · exact no (.inl z)
      · exact no (.inr (.inl z))
      · exact z a ra rfl
      · exact no (.inr (.inr (.inl ⟨_, z⟩)))
    refine ⟨good, fun a r => ?_⟩
    cases w : Wn nd c a with
    | false => rfl
    | true =>
      exfalso
      have t : T D 0 = false := by
        cases t : T D 0 with
        | false => rfl
        | true => exact absurd r (res_told t)
      have z := (kn _ (ins_point D 0 c a hc r.1) w).1 t
      unfold iQ at z
      have := cR_zero_iff.mp z a r.1
      rw [(fB_iff T D a).mpr ((free_succ T D a).mp r.2).1] at this
      simp at this
  · intro g k ik hk
    refine ⟨fun t => cR_zero fun a q => ?_, fun h n i t => tellsQ_iff.mpr ?_⟩
    · cases f : fB T D a with
      | false => simp
      | true =>
        have r : Res T D 0 a := (res_rest t).mpr ⟨q, (fB_iff T D a).mp f⟩
        have w : nd (a / 2 ^ c) = false := g.2 a r
        have ne : ¬ (a / 2 ^ c = k) := fun e => by rw [e, hk] at w; cases w
        simp [ne]
    · have ok : OkSet X (Wn nd c) c (Rest T h n) := by
        have gh : ∀ {h1 n1 : Nat}, Good X (Wn nd c) c T h1 n1 → Ins h1 n1 h n → OkSet X (Wn nd c) c (Rest T h n) := by
          intro h1
          induction h1 with
          | zero =>
            intro n1 _ i1
            obtain ⟨rfl, rfl⟩ := (ins_zero _ _ _).mp i1
            refine .inr (.inr (.inl ⟨n / 2 ^ c, fun a r => ?_⟩))
            have e : a = n := by simpa using r.1
            rw [e]
          | succ h1 ih =>
            intro n1 g1 i1
            rcases (ins_succ _ _ _ _).mp i1 with ⟨rfl, rfl⟩ | j | j
            · exact g1.2.2 t
            · exact ih g1.1 j
            · exact ih g1.2.1 j
        exact gh g.1 i
      rcases ok with o | o | ⟨k0, o⟩ | o
      · exact .inl o
      · exact .inr (.inl o)
      · by_cases e : k0 = k
        · exact .inr (.inr (.inr fun a r => (o a r).trans e))
        · exact .inr (.inr (.inl fun a r z => e ((o a r).symm.trans z)))
      · refine .inr (.inr (.inl fun a r z => ?_))
        have w : nd (a / 2 ^ c) = false := o a r
        rw [z, hk] at w
        cases w
end
end Fc

set_option Elab.async false
set_option autoImplicit false
set_option linter.all false
/-! The rests as the program lists them: the greatest known ones within a node. -/
namespace Fc
/-! ### the greatest told nodes within one -/
def covL (T : Told) : Nat → Nat → List (Nat × Nat)
  | 0, n => if T 0 n = true then [(0, n)] else []
  | h + 1, n => if T (h + 1) n = true then [(h + 1, n)] else covL T h (2 * n) ++ covL T h (2 * n + 1)
def innL (T : Told) : Nat → Nat → List (Nat × Nat)
  | 0, _ => []
  | h + 1, n => covL T h (2 * n) ++ covL T h (2 * n + 1)
theorem covL_eq (T : Told) (h n : Nat) : covL T h n = if T h n = true then [(h, n)] else innL T h n := by
  cases h <;> rfl
theorem sum_cov (T : Told) (f : Nat → Bool) : ∀ h n : Nat, cR f h n = cR (fun a => f a && fB T (h + 1) a) h n + ((covL T h n).map fun q => cR f q.1 q.2).sum
  | h, n => by
    cases t : T h n with
    | true =>
      have z : cR (fun a => f a && fB T (h + 1) a) h n = 0 := cR_zero fun a q => by
        rw [fB_succ, q, t]
        simp
      rw [z, covL_eq, if_pos t]
      simp
    | false =>
      have e : cR (fun a => f a && fB T (h + 1) a) h n = cR (fun a => f a && fB T h a) h n := cR_congr fun a q => by
        rw [fB_succ, q, t]
        simp
      rw [e, covL_eq, if_neg (by rw [t]; simp)]
      match h with
      | 0 => simp [innL, fB]
      | h + 1 =>
        show cR f h (2 * n) + cR f h (2 * n + 1) = cR _ h (2 * n) + cR _ h (2 * n + 1) + ((covL T h (2 * n) ++ covL T h (2 * n + 1)).map _).sum
        rw [List.map_append, List.sum_append, sum_cov T f h (2 * n), sum_cov T f h (2 * n + 1)]
        omega
theorem sum_inn (T : Told) (f : Nat → Bool) (h n : Nat) : cR f h n = cR (fun a => f a && fB T h a) h n + ((innL T h n).map fun q => cR f q.1 q.2).sum := by
  match h with
  | 0 => simp [innL, fB]
  | h + 1 =>
    show cR f h (2 * n) + cR f h (2 * n + 1) = cR _ h (2 * n) + cR _ h (2 * n + 1) + ((covL T h (2 * n) ++ covL T h (2 * n + 1)).map _).sum
    rw [List.map_append, List.sum_append, sum_cov T f h (2 * n), sum_cov T f h (2 * n + 1)]
    omega
/-- x is among the greatest told ones at most as high as h -/
def Top (T : Told) (h n : Nat) (x : Nat × Nat) : Prop := Ins h n x.1 x.2 ∧ T x.1 x.2 = true ∧ ∀ h' n', Ins h n h' n' → T h' n' = true → Ins h' n' x.1 x.2 → (h', n') = x
theorem mem_cov (T : Told) : ∀ (h n : Nat) (x : Nat × Nat), x ∈ covL T h n ↔ Top T h n x
  | h, n, x => by
    rw [covL_eq]
    cases t : T h n with
    | true =>
      rw [if_pos rfl]
      constructor
      · intro m
        have e : x = (h, n) := by simpa using m
        subst e
        refine ⟨Ins.refl _ _, t, fun h' n' i _ j => ?_⟩
        have l : h' = h := by have := i.1; have := j.1; omega
        have l2 : n' = n := by
          have := i.2
          rw [l] at this
          simpa using this
        rw [l, l2]
      · rintro ⟨i, _, m⟩
        have := m h n (Ins.refl _ _) t i
        rw [this]
        simp
    | false =>
      rw [if_neg (by simp)]
      match h with
      | 0 =>
        constructor
        · intro m
          cases m
        · rintro ⟨i, t', _⟩
          obtain ⟨e1, e2⟩ := (ins_zero _ _ _).mp i
          rw [e1, e2, t] at t'
          cases t'
      | h + 1 =>
        show x ∈ covL T h (2 * n) ++ covL T h (2 * n + 1) ↔ _
        rw [List.mem_append, mem_cov T h (2 * n) x, mem_cov T h (2 * n + 1) x]
        constructor
        · rintro (⟨i, t', m⟩ | ⟨i, t', m⟩)
          · refine ⟨(ins_left h n).trans i, t', fun h' n' i' t2 j => ?_⟩
            rcases (ins_succ _ _ _ _).mp i' with ⟨rfl, rfl⟩ | z | z
            · rw [t] at t2
              cases t2
            · exact m h' n' z t2 j
            · exact absurd (z.trans j) fun y => ins_apart i y
          · refine ⟨(ins_right h n).trans i, t', fun h' n' i' t2 j => ?_⟩
            rcases (ins_succ _ _ _ _).mp i' with ⟨rfl, rfl⟩ | z | z
            · rw [t] at t2
              cases t2
            · exact absurd (z.trans j) fun y => ins_apart y i
            · exact m h' n' z t2 j
        · rintro ⟨i, t', m⟩
          rcases (ins_succ _ _ _ _).mp i with ⟨e1, e2⟩ | z | z
          · rw [e1, e2, t] at t'
            cases t'
          · exact .inl ⟨z, t', fun h' n' i' => m h' n' ((ins_left h n).trans i')⟩
          · exact .inr ⟨z, t', fun h' n' i' => m h' n' ((ins_right h n).trans i')⟩
theorem nodup_cov (T : Told) : ∀ h n : Nat, (covL T h n).Nodup
  | h, n => by
    rw [covL_eq]
    split
    · simp
    · match h with
      | 0 => exact List.nodup_nil
      | h + 1 =>
        refine List.nodup_append.mpr ⟨nodup_cov T h _, nodup_cov T h _, fun a ha b hb e => ?_⟩
        subst e
        exact ins_apart ((mem_cov T _ _ _).mp ha).1 ((mem_cov T _ _ _).mp hb).1
/-- .. strictly within -/
def TopI (T : Told) (h n : Nat) (x : Nat × Nat) : Prop := Ins h n x.1 x.2 ∧ x.1 < h ∧ T x.1 x.2 = true ∧ ∀ h' n', Ins h n h' n' → h' < h → T h' n' = true → Ins h' n' x.1 x.2 → (h', n') = x
theorem mem_inn (T : Told) (h n : Nat) (x : Nat × Nat) : x ∈ innL T h n ↔ TopI T h n x := by
  match h with
  | 0 =>
    constructor
    · intro m
      cases m
    · rintro ⟨_, l, _⟩
      omega
  | h + 1 =>
    show x ∈ covL T h (2 * n) ++ covL T h (2 * n + 1) ↔ _
    rw [List.mem_append, mem_cov, mem_cov]
    constructor
    · rintro (⟨i, t', m⟩ | ⟨i, t', m⟩)
      · refine ⟨(ins_left h n).trans i, by have := i.1; omega, t', fun h' n' i' l t2 j => ?_⟩
        rcases (ins_succ _ _ _ _).mp i' with ⟨rfl, rfl⟩ | z | z
        · omega
        · exact m h' n' z t2 j
        · exact absurd (z.trans j) fun y => ins_apart i y
      · refine ⟨(ins_right h n).trans i, by have := i.1; omega, t', fun h' n' i' l t2 j => ?_⟩
        rcases (ins_succ _ _ _ _).mp i' with ⟨rfl, rfl⟩ | z | z
        · omega
        · exact absurd (z.trans j) fun y => ins_apart y i
        · exact m h' n' z t2 j
    · rintro ⟨i, l, t', m⟩
      rcases (ins_succ _ _ _ _).mp i with ⟨e1, e2⟩ | z | z
      · omega
      · exact .inl ⟨z, t', fun h' n' i' => m h' n' ((ins_left h n).trans i') (by have := i'.1; omega)⟩
      · exact .inr ⟨z, t', fun h' n' i' => m h' n' ((ins_right h n).trans i') (by have := i'.1; omega)⟩
theorem nodup_inn (T : Told) (h n : Nat) : (innL T h n).Nodup := by
  match h with
  | 0 => exact List.nodup_nil
  | h + 1 =>
    refine List.nodup_append.mpr ⟨nodup_cov T h _, nodup_cov T h _, fun a ha b hb e => ?_⟩
    subst e
    exact ins_apart ((mem_cov T _ _ _).mp ha).1 ((mem_cov T _ _ _).mp hb).1

/-! ### the program's lists -/
/-- p begins with q -/
def isIn (p q : Nat × Nat) : Bool := decide (q.1 ≤ p.1) && decide (p.2 / 2 ^ (p.1 - q.1) = q.2)
theorem isIn_iff {D : Nat} {p q : Nat × Nat} (hp : p.1 ≤ D) (hq : q.1 ≤ D) : isIn p q = true ↔ Ins (D - q.1) q.2 (D - p.1) p.2 := by
  unfold isIn Ins
  rw [Bool.and_eq_true, decide_eq_true_eq, decide_eq_true_eq]
  by_cases l : q.1 ≤ p.1
  · have e : (D - q.1) - (D - p.1) = p.1 - q.1 := by omega
    rw [e]
    constructor
    · rintro ⟨_, z⟩
      exact ⟨by omega, z⟩
    · rintro ⟨_, z⟩
      exact ⟨l, z⟩
  · constructor
    · rintro ⟨z, _⟩
      exact absurd z l
    · rintro ⟨z, _⟩
      omega
theorem isIn_refl (p : Nat × Nat) : isIn p p = true := by
  unfold isIn
  simp
theorem isIn_trans {p q r : Nat × Nat} (a : isIn p q = true) (b : isIn q r = true) : isIn p r = true := by
  unfold isIn at a b ⊢
  rw [Bool.and_eq_true, decide_eq_true_eq, decide_eq_true_eq] at a b ⊢
  refine ⟨by omega, ?_⟩
  have e : p.1 - r.1 = (p.1 - q.1) + (q.1 - r.1) := by omega
  rw [e, Nat.pow_add, ← Nat.div_div_eq_div_mul, a.2, b.2]
theorem isIn_anti {p q : Nat × Nat} (a : isIn p q = true) (b : isIn q p = true) : p = q := by
  unfold isIn at a b
  rw [Bool.and_eq_true, decide_eq_true_eq, decide_eq_true_eq] at a b
  have e : p.1 = q.1 := by omega
  have e2 := a.2
  rw [e] at e2
  simp at e2
  exact Prod.ext e e2
/-- one step of the list of the known ones within p that lie in no other one -/
def innStep (p : Nat × Nat) (found : List (Nat × Nat)) (one : Nat × Nat) : List (Nat × Nat) :=
  if (decide (one ≠ p) && (isIn one p && !(found.any fun o => isIn one o))) = true then found ++ [one] else found
def innM (p : Nat × Nat) (order : List (Nat × Nat)) : List (Nat × Nat) := order.foldl (innStep p) []
/-- lengths ascend -/
abbrev leN (p q : Nat × Nat) : Bool := decide (p.1 < q.1 ∨ (p.1 = q.1 ∧ p.2 ≤ q.2))
/-- the greatest ones of some within p -/
def MaxIn (p : Nat × Nat) (l : List (Nat × Nat)) (x : Nat × Nat) : Prop := x ∈ l ∧ x ≠ p ∧ isIn x p = true ∧ ∀ y ∈ l, y ≠ p → isIn y p = true → isIn x y = true → y = x
theorem innM_spec (p : Nat × Nat) : ∀ (rest done found : List (Nat × Nat)), (done ++ rest).Nodup → (done ++ rest).Pairwise (fun a b => leN a b = true) → (∀ x, x ∈ found ↔ MaxIn p done x) → found.Nodup →
    (∀ x, x ∈ rest.foldl (innStep p) found ↔ MaxIn p (done ++ rest) x) ∧ (rest.foldl (innStep p) found).Nodup
  | [], done, found, _, _, hf, hn => by
    rw [List.append_nil]
    exact ⟨hf, hn⟩
  | one :: rest, done, found, nd, pw, hf, hn => by
    have nd' : (done ++ [one] ++ rest).Nodup := by simpa using nd
    have pw' : (done ++ [one] ++ rest).Pairwise (fun a b => leN a b = true) := by simpa using pw
    have fresh : one ∉ done := fun m => by
      have := (List.nodup_append.mp nd).2.2 one m one (List.mem_cons_self ..)
      exact this rfl
    have later : ∀ y ∈ done, leN y one = true := fun y m => (List.pairwise_append.mp pw).2.2 y m one (List.mem_cons_self ..)
    -- one above nothing earlier: a node within one of the same or greater length is one
    have noup : ∀ y ∈ done, isIn y one = true → False := fun y m i => by
      have l := later y m
      unfold isIn at i
      rw [Bool.and_eq_true, decide_eq_true_eq, decide_eq_true_eq] at i
      have l' := of_decide_eq_true l
      have e : y.1 = one.1 := by omega
      have e2 := i.2
      rw [e] at e2
      simp at e2
      have e3 : y = one := Prod.ext e e2
      rw [e3] at m
      exact fresh m
    have climb : ∀ y ∈ done, y ≠ p → isIn y p = true → ∃ z, MaxIn p done z ∧ isIn y z = true := by
      -- by the length of y
      have go : ∀ n y, y.1 = n → y ∈ done → y ≠ p → isIn y p = true → ∃ z, MaxIn p done z ∧ isIn y z = true := by
        intro n
        induction n using Nat.strongRecOn with
        | _ n ih =>
          intro y ey m ne i
          by_cases q : ∃ z ∈ done, z ≠ p ∧ isIn z p = true ∧ isIn y z = true ∧ z ≠ y
          · obtain ⟨z, mz, nz, iz, yz, zy⟩ := q
            have lt : z.1 < n := by
              have yz' := yz
              unfold isIn at yz'
              rw [Bool.and_eq_true, decide_eq_true_eq, decide_eq_true_eq] at yz'
              by_cases e : z.1 = y.1
              · have e2 := yz'.2
                rw [e] at e2
                simp at e2
                exact absurd (Prod.ext e e2.symm) zy
              · omega
            obtain ⟨w, mw, iw⟩ := ih z.1 lt z rfl mz nz iz
            exact ⟨w, mw, isIn_trans yz iw⟩
          · refine ⟨y, ⟨m, ne, i, fun z mz nz iz yz => ?_⟩, isIn_refl y⟩
            refine Classical.byContradiction fun zy => q ⟨z, mz, nz, iz, yz, zy⟩
      exact fun y m ne i => go y.1 y rfl m ne i
    have step : (∀ x, x ∈ innStep p found one ↔ MaxIn p (done ++ [one]) x) ∧ (innStep p found one).Nodup := by
      unfold innStep
      have anyIff : (found.any fun o => isIn one o) = true ↔ ∃ z ∈ done, z ≠ p ∧ isIn z p = true ∧ isIn one z = true := by
        rw [List.any_eq_true]
        constructor
        · rintro ⟨z, mz, iz⟩
          obtain ⟨m1, m2, m3, _⟩ := (hf z).mp mz
          exact ⟨z, m1, m2, m3, iz⟩
        · rintro ⟨z, m1, m2, m3, iz⟩
          obtain ⟨w, mw, iw⟩ := climb z m1 m2 m3
          exact ⟨w, (hf w).mpr mw, isIn_trans iz iw⟩
      have old : ∀ x, x ≠ one → (MaxIn p (done ++ [one]) x ↔ MaxIn p done x) := fun x nx => by
        constructor
        · rintro ⟨m1, m2, m3, m4⟩
          refine ⟨?_, m2, m3, fun y my => m4 y (List.mem_append_left _ my)⟩
          rcases List.mem_append.mp m1 with z | z
          · exact z
          · exact absurd (List.mem_singleton.mp z) nx
        · rintro ⟨m1, m2, m3, m4⟩
          refine ⟨List.mem_append_left _ m1, m2, m3, fun y my ny iy xy => ?_⟩
          rcases List.mem_append.mp my with z | z
          · exact m4 y z ny iy xy
          · rw [List.mem_singleton.mp z] at xy
            exact (noup x m1 xy).elim
      by_cases q : (decide (one ≠ p) && (isIn one p && !(found.any fun o => isIn one o))) = true
      · rw [if_pos q]
        simp only [Bool.and_eq_true, decide_eq_true_eq, Bool.not_eq_true'] at q
        obtain ⟨q1, q2, q3⟩ := q
        have mone : MaxIn p (done ++ [one]) one := by
          refine ⟨List.mem_append_right _ (List.mem_singleton.mpr rfl), q1, q2, fun y my ny iy oy => ?_⟩
          rcases List.mem_append.mp my with z | z
          · have := anyIff.mpr ⟨y, z, ny, iy, oy⟩
            rw [this] at q3
            cases q3
          · exact List.mem_singleton.mp z
        refine ⟨fun x => ?_, List.nodup_append.mpr ⟨hn, by simp, fun a ha b hb e => ?_⟩⟩
        · by_cases nx : x = one
          · subst nx
            exact ⟨fun _ => mone, fun _ => List.mem_append_right _ (List.mem_singleton.mpr rfl)⟩
          · rw [old x nx, List.mem_append, hf x]
            constructor
            · rintro (z | z)
              · exact z
              · exact absurd (List.mem_singleton.mp z) nx
            · exact .inl
        · rw [List.mem_singleton.mp hb] at e
          rw [e] at ha
          exact fresh ((hf one).mp ha).1
      · rw [if_neg q]
        refine ⟨fun x => ?_, hn⟩
        by_cases nx : x = one
        · subst nx
          constructor
          · exact fun m => absurd ((hf x).mp m).1 fresh
          · rintro ⟨_, m2, m3, m4⟩
            exfalso
            refine q ?_
            simp only [Bool.and_eq_true, decide_eq_true_eq, Bool.not_eq_true']
            refine ⟨m2, m3, ?_⟩
            cases z : found.any fun o => isIn x o with
            | false => rfl
            | true =>
              obtain ⟨y, my, ny, iy, xy⟩ := anyIff.mp z
              have := m4 y (List.mem_append_left _ my) ny iy xy
              rw [this] at my
              exact absurd my fresh
        · rw [old x nx, hf x]
    have r := innM_spec p rest (done ++ [one]) (innStep p found one) nd' pw' step.1 step.2
    simpa using r
theorem innM_mem (p : Nat × Nat) {order : List (Nat × Nat)} (nd : order.Nodup) (pw : order.Pairwise (fun a b => leN a b = true)) : (∀ x, x ∈ innM p order ↔ MaxIn p order x) ∧ (innM p order).Nodup := by
  have r := innM_spec p order [] [] (by simpa using nd) (by simpa using pw) (fun x => ⟨fun m => (by cases m), fun m => (by cases m.1)⟩) List.nodup_nil
  rw [List.nil_append] at r
  exact r
/-- told by a list of nodes -/
def tF (D : Nat) (fs : List (Nat × Nat)) : Told := fun h n => decide (h ≤ D) && decide ((D - h, n) ∈ fs)
/-- a count is that of the rest and those of the greatest known ones within -/
theorem sum_innM {D : Nat} {order : List (Nat × Nat)} (nd : order.Nodup) (pw : order.Pairwise (fun a b => leN a b = true)) (val : ∀ q ∈ order, q.1 ≤ D) {p : Nat × Nat} (hp : p.1 ≤ D) (f : Nat → Bool) :
    cR f (D - p.1) p.2 = cR (fun a => f a && fB (tF D order) (D - p.1) a) (D - p.1) p.2 + ((innM p order).map fun q => cR f (D - q.1) q.2).sum := by
  obtain ⟨mem, nod⟩ := innM_mem p nd pw
  have perm : ((innM p order).map fun q => (D - q.1, q.2)).Perm (innL (tF D order) (D - p.1) p.2) := by
    refine (List.perm_ext_iff_of_nodup ?_ (nodup_inn _ _ _)).mpr fun x => ?_
    · refine List.Pairwise.map (R := fun a b => a ≠ b ∧ a.1 ≤ D ∧ b.1 ≤ D) (S := fun a b => a ≠ b) (fun q : Nat × Nat => (D - q.1, q.2)) (fun a b r e => ?_) ?_
      · have e : (D - a.1, a.2) = (D - b.1, b.2) := e
        have e1 : D - a.1 = D - b.1 := (Prod.mk.inj e).1
        have e2 : a.2 = b.2 := (Prod.mk.inj e).2
        exact r.1 (Prod.ext (by omega) e2)
      · have vm : ∀ a ∈ innM p order, a.1 ≤ D := fun a ha => val a ((mem a).mp ha).1
        exact List.Pairwise.imp_of_mem (fun {a b} ha hb r => ⟨r, vm a ha, vm b hb⟩) nod
    · rw [mem_inn, List.mem_map]
      constructor
      · rintro ⟨q, mq, rfl⟩
        obtain ⟨m1, m2, m3, m4⟩ := (mem q).mp mq
        have vq := val q m1
        have iq := (isIn_iff vq hp).mp m3
        have eq : D - (D - q.1) = q.1 := by omega
        refine ⟨iq, ?_, ?_, fun h' n' i l t j => ?_⟩
        · have l := iq.1
          by_cases e : q.1 = p.1
          · exfalso
            have e2 := iq.2
            rw [e] at e2
            simp at e2
            exact m2 (Prod.ext e e2)
          · show D - q.1 < D - p.1
            omega
        · show (decide (D - q.1 ≤ D) && decide ((D - (D - q.1), q.2) ∈ order)) = true
          rw [eq]
          simp [m1]
        · have t' : (decide (h' ≤ D) && decide ((D - h', n') ∈ order)) = true := t
          rw [Bool.and_eq_true, decide_eq_true_eq, decide_eq_true_eq] at t'
          obtain ⟨lh, mt⟩ := t'
          have eh : D - (D - h') = h' := by omega
          have vy : (D - h', n').1 ≤ D := by show D - h' ≤ D; omega
          have iy : isIn (D - h', n') p = true := (isIn_iff vy hp).mpr (by show Ins (D - p.1) p.2 (D - (D - h')) n'; rw [eh]; exact i)
          have iqy : isIn q (D - h', n') = true := (isIn_iff vq vy).mpr (by show Ins (D - (D - h')) n' (D - q.1) q.2; rw [eh]; exact j)
          have ny : (D - h', n') ≠ p := fun z => by
            have : D - h' = p.1 := congrArg Prod.fst z
            omega
          have := m4 _ mt ny iy iqy
          rw [← this]
          show (h', n') = (D - (D - h'), n')
          rw [eh]
      · rintro ⟨i, l, t, m⟩
        obtain ⟨x1, x2⟩ := x
        have t' : (decide (x1 ≤ D) && decide ((D - x1, x2) ∈ order)) = true := t
        rw [Bool.and_eq_true, decide_eq_true_eq, decide_eq_true_eq] at t'
        obtain ⟨lx, mx⟩ := t'
        have ex : D - (D - x1) = x1 := by omega
        have vx : (D - x1, x2).1 ≤ D := by show D - x1 ≤ D; omega
        refine ⟨(D - x1, x2), (mem _).mpr ⟨mx, fun z => ?_, ?_, fun y my ny iy xy => ?_⟩, ?_⟩
        · have : D - x1 = p.1 := congrArg Prod.fst z
          have l' : x1 < D - p.1 := l
          omega
        · refine (isIn_iff vx hp).mpr ?_
          show Ins (D - p.1) p.2 (D - (D - x1)) x2
          rw [ex]
          exact i
        · have vy := val y my
          have j := (isIn_iff vx vy).mp xy
          have j' : Ins (D - y.1) y.2 x1 x2 := by
            have j2 : Ins (D - y.1) y.2 (D - (D - x1)) x2 := j
            rw [ex] at j2
            exact j2
          have iy' := (isIn_iff vy hp).mp iy
          have ly : D - y.1 < D - p.1 := by
            have := iy'.1
            by_cases e : y.1 = p.1
            · exfalso
              have e2 := iy'.2
              rw [e] at e2
              simp at e2
              exact ny (Prod.ext e e2)
            · omega
          have ty : tF D order (D - y.1) y.2 = true := by
            show (decide (D - y.1 ≤ D) && decide ((D - (D - y.1), y.2) ∈ order)) = true
            have ey : D - (D - y.1) = y.1 := by omega
            rw [ey]
            simp [my]
          have := m _ _ iy' ly ty j'
          have e1 : D - y.1 = x1 := congrArg Prod.fst this
          have e2 : y.2 = x2 := congrArg Prod.snd this
          exact Prod.ext (by show y.1 = D - x1; omega) e2
        · show (D - (D - x1), x2) = (x1, x2)
          rw [ex]
  have s := sum_inn (tF D order) f (D - p.1) p.2
  have e := (perm.map fun q : Nat × Nat => cR f q.1 q.2).sum_nat
  rw [List.map_map] at e
  have e' : ((innM p order).map fun q => cR f (D - q.1) q.2).sum = ((innL (tF D order) (D - p.1) p.2).map fun q => cR f q.1 q.2).sum := e
  rw [e']
  exact s
end Fc

set_option Elab.async false
set_option autoImplicit false
set_option linter.all false
set_option maxRecDepth 100000
/-! What a def keeps; the objects of the program. -/
namespace Fc
open PySem PySem.Spec PyProof.Rows L2
/-! ### defs -/
section
variable (P : Program) (w : World) (K : PySem.W.Frag) (mg : Str → Option Value) (base : Heap)
/-- the def d, called with room for k calls, keeps the promise sp -/
structure Ok (k : Nat) (d : He.DefD) (ps : List Str) (sp : Sp) : Prop where
  ex : ∃ fd, FnOk P w K mg base CX0 k (He.fAd K d.at_) fd ps sp ∧ Binds K fd ps [] ∧ PySem.W.keepIn K (.ref (He.fAd K d.at_)) = true
end
section
variable {P : Program} {w : World} {K : PySem.W.Frag} {mg : Str → Option Value} {base : Heap}
theorem FnAt.ok {d : He.DefD} {N ps : List Str} {k : Nat} {sp : Sp} (F : FnAt K d) (S : FnScope N ps d.scope) (len : ∀ vs H Q E, sp vs H Q E → vs.length = ps.length)
    (hb : ∀ (kV doc pm : Value) (an : Option Addr) (cdv ct : Value) (us : List Value), us.length = ps.length → bindArgs (PySem.W.fnOf d.name d.qual d.params d.body d.scope .none kV doc pm an cdv ct) ⟨us, []⟩ = pure (ps.zip us))
    (hbody : ∀ (cdv : Value) (A : Around) (outer : List Env) (s : Shared) (H : Hp) (vs : List V) (Q : VK) (E : XK), Room k (A.deeper (envOfC d.qual d.scope s.heap.objs.size (He.fAd K d.at_) cdv)) → sp vs H Q E →
      ∃ t, PSs (cxOf CX0 P w K mg base N d.qual d.scope (He.fAd K d.at_) cdv A outer s H E).nox d.body t ∧ t { nx := fun _ H' => Q .non H', rt := Q } (start N vs) H) : Ok P w K mg base (k + 1) d ps sp := by
  obtain ⟨fd, F⟩ := F
  refine ⟨fd, F.ok S len (fun cdv A outer s H vs Q E hr hsp => ?_), F.bindsN hb, F.kp⟩
  obtain ⟨t, h, q⟩ := hbody cdv A outer s H vs Q E hr hsp
  exact ⟨t, h.nox, q⟩
theorem Ok.mono {j k : Nat} {d : He.DefD} {ps : List Str} {sp : Sp} (F : Ok P w K mg base j d ps sp) (h : j ≤ k) : Ok P w K mg base k d ps sp := by
  obtain ⟨fd, F, b, kp⟩ := F
  exact ⟨fd, F.mono h, b, kp⟩
theorem Ok.imp {k : Nat} {d : He.DefD} {ps : List Str} {sp sp' : Sp} (F : Ok P w K mg base k d ps sp) (h : ∀ vs H Q E, sp' vs H Q E → sp vs H Q E) : Ok P w K mg base k d ps sp' := by
  obtain ⟨fd, F, b, kp⟩ := F
  exact ⟨fd, F.imp h, b, kp⟩
end
section
variable {X : Cx} {k j : Nat} {d : He.DefD} {ps : List Str} {sp : Sp} {x : Str} {p pos apos : Pos} {e o : Expr} {es : List Expr} {ta : TE} {t : TA}
theorem pe_fc (G : Ok X.prog X.w X.K X.mg X.base k d ps sp) (hr : Room j X.A) (hk : k ≤ j) (hg : Gl X x) (hm : X.mg x = some (.ref (He.fAd X.K d.at_)))
    (ha : PA X (e :: es) t) (hdb : (x == ("__debug__" : Str)) = false := by decide) (he : starEach (e :: es) X.env = (false, eval e X.env) :: starEach es X.env := by rfl) (hpl : (backTo pos (starEach es X.env)).any (·.1) = false := by rfl) :
    PE X (.Call (.Name x p) (e :: es) [] pos) (tCall sp [] E0 t) := by
  obtain ⟨fd, F, b, kp⟩ := G
  exact pe_call F (hr.mono hk) hg hm kp b .nil pass0 ha hdb he hpl
theorem pe_mc {pl : Sem Bool} {c : Str} {m : Str} (he : PE X o ta) (G : Ok X.prog X.w X.K X.mg X.base k d ps sp) (hr : Room j X.A) (hk : k ≤ j) (hc : Cls X.K (He.ga X.K c)) (hm : Meth X.K (He.ga X.K c) m (He.fAd X.K d.at_)) (ha : PA X (e :: es) t)
    (hst : starEach (e :: es) X.env = (false, eval e X.env) :: starEach es X.env := by rfl) (hpl : (backTo pos (starEach es X.env)).any (·.1) = false := by rfl)
    (ht : eval (.Call (.Attribute o m apos) (e :: es) [] pos) X.env = (do
      let ov ← eval o X.env
      standAt apos.atName
      let (f, first) ← holding [ov] (getMethod ov m pl)
      callWith pos f first (backTo pos (starEach (e :: es) X.env)) (backToKw pos (keywordEach [] X.env))) := by rfl) :
    PE X (.Call (.Attribute o m apos) (e :: es) [] pos) (tMeth (He.ga X.K c) m sp [] E0 ta t) := by
  obtain ⟨fd, F, b, kp⟩ := G
  exact pe_meth (pl := pl) he hc hm F (hr.mono hk) b .nil pass0 ha hst hpl ht
theorem pe_mc0 {pl : Sem Bool} {c : Str} {m : Str} (he : PE X o ta) (G : Ok X.prog X.w X.K X.mg X.base k d ps sp) (hr : Room j X.A) (hk : k ≤ j) (hc : Cls X.K (He.ga X.K c)) (hm : Meth X.K (He.ga X.K c) m (He.fAd X.K d.at_))
    (ht : eval (.Call (.Attribute o m apos) [] [] pos) X.env = (do
      let ov ← eval o X.env
      standAt apos.atName
      let (f, first) ← holding [ov] (getMethod ov m pl)
      callWith pos f first (backTo pos (starEach [] X.env)) (backToKw pos (keywordEach [] X.env))) := by rfl) :
    PE X (.Call (.Attribute o m apos) [] [] pos) (tMeth (He.ga X.K c) m sp [] E0 ta tNil) := by
  obtain ⟨fd, F, b, kp⟩ := G
  exact pe_meth0 (pl := pl) he hc hm F (hr.mono hk) b .nil pass0 ht
theorem pe_mk {c : Str} (G : Ok X.prog X.w X.K X.mg X.base k d ps sp) (hr : Room j X.A) (hk : k + 1 ≤ j) (hg : Gl X c) (hm : X.mg c = some (.ref (He.ga X.K c))) (M : Mk X.K (He.ga X.K c) (He.fAd X.K d.at_))
    (ha : PA X (e :: es) t) (hdb : (c == ("__debug__" : Str)) = false := by decide) (he : starEach (e :: es) X.env = (false, eval e X.env) :: starEach es X.env := by rfl) (hpl : (backTo pos (starEach es X.env)).any (·.1) = false := by rfl) :
    PE X (.Call (.Name c p) (e :: es) [] pos) (tMake (He.ga X.K c) sp [] E0 t) := by
  obtain ⟨fd, F, b, kp⟩ := G
  exact pe_make M F (hr.mono hk) hg hm b .nil pass0 ha hdb he hpl
end
/-! ### a cut behind a statement: what holds there is named once -/
def tCut (t : TS) : TS := fun D σ H => ∃ I : L2.St → Hp → Prop, t { D with nx := I } σ H ∧ ∀ σ' H', I σ' H' → D.nx σ' H'
theorem ps_cut {X : Cx} {st : Stmt} {t : TS} (h : PS X st t) : PS X st (tCut t) := by
  refine ⟨fun pins s σ H D I q => ?_⟩
  obtain ⟨J, q, k⟩ := q
  refine thn (h.run pins s σ H _ I q) fun f s1 q1 => ?_
  cases f with
  | next => obtain ⟨σ', H', I2, e⟩ := q1; exact ⟨σ', H', I2, k _ _ e⟩
  | brk => exact q1
  | cont => exact q1
  | ret v => exact q1
/-! ### within comprehensions: the written part named -/
section
variable {X : Cx} {K0 : PySem.W.Frag} {k j : Nat} {d : He.DefD} {ps : List Str} {sp : Sp} {x f : Str} {p pos apos : Pos} {e o : Expr} {es : List Expr} {ta : TE} {t : TA}
theorem pe_fldK (hK : X.K = K0) (he : PE X e ta) (hb : attributeBase e f X.env (eval e X.env) = eval e X.env) : PE X (.Attribute e f pos) (tFld K0 ta f) := by
  subst hK
  exact pe_fld he hb
theorem ix_tupK (hK : X.K = K0) : IxR X (rIxT K0) := by
  subst hK
  exact ix_tup
theorem pg_tupK {n k' : Nat} {tt : TGs} (hK : X.K = K0) (hc : X.calm = true) (h : PGs X es tt) (hn : (assignEach es X.env).length = n := by rfl) (hst : (assignEach es X.env).findIdx? (·.1) = none := by rfl) : PG X (.Tuple es k' pos) (gTup K0 n tt) := by
  subst hK
  exact pg_tup hc h hn hst
theorem op_catK (hK : X.K = K0) : OpR X (binaryOp .Add) (rCatA K0) := by
  subst hK
  exact op_catA
theorem pe_mcK {pl : Sem Bool} {c : Str} {m : Str} (hK : X.K = K0) (he : PE X o ta) (G : Ok X.prog X.w X.K X.mg X.base k d ps sp) (hr : Room j X.A) (hk : k ≤ j) (hc : Cls X.K (He.ga X.K c)) (hm : Meth X.K (He.ga X.K c) m (He.fAd X.K d.at_)) (ha : PA X (e :: es) t)
    (hst : starEach (e :: es) X.env = (false, eval e X.env) :: starEach es X.env := by rfl) (hpl : (backTo pos (starEach es X.env)).any (·.1) = false := by rfl)
    (ht : eval (.Call (.Attribute o m apos) (e :: es) [] pos) X.env = (do
      let ov ← eval o X.env
      standAt apos.atName
      let (f, first) ← holding [ov] (getMethod ov m pl)
      callWith pos f first (backTo pos (starEach (e :: es) X.env)) (backToKw pos (keywordEach [] X.env))) := by rfl) :
    PE X (.Call (.Attribute o m apos) (e :: es) [] pos) (tMeth (He.ga K0 c) m sp [] E0 ta t) := by
  subst hK
  exact pe_mc (pl := pl) he G hr hk hc hm ha hst hpl ht
theorem pe_mkK {c : Str} (hK : X.K = K0) (G : Ok X.prog X.w X.K X.mg X.base k d ps sp) (hr : Room j X.A) (hk : k + 1 ≤ j) (hg : Gl X c) (hm : X.mg c = some (.ref (He.ga X.K c))) (M : Mk X.K (He.ga X.K c) (He.fAd X.K d.at_))
    (ha : PA X (e :: es) t) (hdb : (c == ("__debug__" : Str)) = false := by decide) (he : starEach (e :: es) X.env = (false, eval e X.env) :: starEach es X.env := by rfl) (hpl : (backTo pos (starEach es X.env)).any (·.1) = false := by rfl) :
    PE X (.Call (.Name c p) (e :: es) [] pos) (tMake (He.ga K0 c) sp [] E0 t) := by
  subst hK
  exact pe_mk G hr hk hg hm M ha hdb he hpl
end
/-! ### objects -/
abbrev Kd := Nat × Nat
/-- the depth of a space of so many dimensions and bits -/
def Kd.D (k : Kd) : Nat := k.1 * k.2
def kinds : List Kd := [(1, 2), (1, 3), (2, 1), (3, 1)]
abbrev Pf := Nat × Nat
/-- a node by its address -/
def PfAt (H : Hp) (a : Addr) (p : Pf) : Prop := H a = some (.tup [.int (p.1 : Nat), .int (p.2 : Nat)])
theorem PfAt.pair {H : Hp} {a : Addr} {p : Pf} (h : PfAt H a p) : PairAt H a (p.1, p.2) := h
theorem PfAt.sq {K : PySem.W.Frag} {H : Hp} {a : Addr} {p : Pf} (h : PfAt H a p) : SqT K H a [.int (p.1 : Nat), .int (p.2 : Nat)] := SqT.of h
theorem PfAt.same {H H' : Hp} {a : Addr} {p : Pf} (s : Same H H') (h : PfAt H a p) : PfAt H' a p := s _ _ h
/-- a node of the tree -/
def Valid (k : Kd) (p : Pf) : Prop := p.1 ≤ k.D ∧ p.2 < 2 ^ p.1
def spF (k : Kd) : List (Str × V) := [("dimensions", .int (k.1 : Nat)), ("bits", .int (k.2 : Nat)), ("depth", .int (k.D : Nat)), ("side", .int ((2 ^ k.2 : Nat) : Int))]
def SpaceAt (K : PySem.W.Frag) (H : Hp) (a : Addr) (k : Kd) : Prop := k ∈ kinds ∧ ∃ dx, H a = some (.ins (He.ga K "Space") dx (spF k))
theorem SpaceAt.same {K : PySem.W.Frag} {H H' : Hp} {a : Addr} {k : Kd} (s : Same H H') : SpaceAt K H a k → SpaceAt K H' a k := fun ⟨h, dx, e⟩ => ⟨h, dx, s _ _ e⟩
/-- a tuple of ints -/
def TupI (H : Hp) (a : Addr) (ns : List Int) : Prop := H a = some (.tup (ns.map V.int))
theorem TupI.same {H H' : Hp} {a : Addr} {ns : List Int} (s : Same H H') (h : TupI H a ns) : TupI H' a ns := s _ _ h
theorem TupI.sq {K : PySem.W.Frag} {H : Hp} {a : Addr} {ns : List Int} (h : TupI H a ns) : SqT K H a (ns.map V.int) := SqT.of h
theorem kinds_le {k : Kd} (h : k ∈ kinds) : k.D ≤ 3 ∧ 1 ≤ k.1 ∧ k.1 ≤ 3 ∧ 1 ≤ k.2 ∧ k.2 ≤ 3 ∧ 2 ≤ k.D := by
  revert k
  decide
end Fc

set_option Elab.async false
set_option autoImplicit false
set_option linter.all false
set_option maxRecDepth 100000
/-! The objects of the program by their fields. Printed by gen_obj.py. -/
namespace Fc
open PySem PySem.Spec PyProof.Rows L2
theorem Same.new {H : Hp} {p : Addr} {o : HO} (h : H p = none) : Same H (upd H p o) := fun b z e => by
  rw [upd_ne (ne_of_none e h)]
  exact e
section
variable {K : PySem.W.Frag} {mg : Str → Option Value} {H : Hp} {a C dx : Addr} {fs : List (Str × V)} {f m : Str} {v : V}
theorem fldR {Q : VK} (h : H a = some (.ins C dx fs)) (c : Cls K C) (n : NoAttr K C f) (l : fs.lookup f = some v) (q : Q v H) :
    ∃ a' C' dx' fs' v', V.ref a = .ref a' ∧ H a' = some (.ins C' dx' fs') ∧ Cls K C' ∧ NoAttr K C' f ∧ fs'.lookup f = some v' ∧ Q v' H := ⟨a, C, dx, fs, v, rfl, h, c, n, l, q⟩
theorem methR {R : Prop} (h : H a = some (.ins C dx fs)) (l : fs.lookup m = none) (q : R) :
    ∃ a' dx' fs', V.ref a = .ref a' ∧ H a' = some (.ins C dx' fs') ∧ fs'.lookup m = none ∧ R := ⟨a, dx, fs, rfl, h, l, q⟩
/-! ### Space -/
theorem lSpace_dimensions {k : Kd} : (spF k).lookup ("dimensions" : Str) = some (.int (k.1 : Nat)) := by kernel_rfl
theorem rSpace_dimensions {Q : VK} (T : Tx K mg) {k : Kd} (h : H a = some (.ins (He.ga K "Space") dx (spF k))) (q : Q (.int (k.1 : Nat)) H) : ∃ a' C' dx' fs' v', V.ref a = .ref a' ∧ H a' = some (.ins C' dx' fs') ∧ Cls K C' ∧ NoAttr K C' ("dimensions" : Str) ∧ fs'.lookup ("dimensions" : Str) = some v' ∧ Q v' H := fldR h T.c_Space T.n_Space_dimensions lSpace_dimensions q
theorem lSpace_bits {k : Kd} : (spF k).lookup ("bits" : Str) = some (.int (k.2 : Nat)) := by kernel_rfl
theorem rSpace_bits {Q : VK} (T : Tx K mg) {k : Kd} (h : H a = some (.ins (He.ga K "Space") dx (spF k))) (q : Q (.int (k.2 : Nat)) H) : ∃ a' C' dx' fs' v', V.ref a = .ref a' ∧ H a' = some (.ins C' dx' fs') ∧ Cls K C' ∧ NoAttr K C' ("bits" : Str) ∧ fs'.lookup ("bits" : Str) = some v' ∧ Q v' H := fldR h T.c_Space T.n_Space_bits lSpace_bits q
theorem lSpace_depth {k : Kd} : (spF k).lookup ("depth" : Str) = some (.int (k.D : Nat)) := by kernel_rfl
theorem rSpace_depth {Q : VK} (T : Tx K mg) {k : Kd} (h : H a = some (.ins (He.ga K "Space") dx (spF k))) (q : Q (.int (k.D : Nat)) H) : ∃ a' C' dx' fs' v', V.ref a = .ref a' ∧ H a' = some (.ins C' dx' fs') ∧ Cls K C' ∧ NoAttr K C' ("depth" : Str) ∧ fs'.lookup ("depth" : Str) = some v' ∧ Q v' H := fldR h T.c_Space T.n_Space_depth lSpace_depth q
theorem lSpace_side {k : Kd} : (spF k).lookup ("side" : Str) = some (.int ((2 ^ k.2 : Nat) : Int)) := by kernel_rfl
theorem rSpace_side {Q : VK} (T : Tx K mg) {k : Kd} (h : H a = some (.ins (He.ga K "Space") dx (spF k))) (q : Q (.int ((2 ^ k.2 : Nat) : Int)) H) : ∃ a' C' dx' fs' v', V.ref a = .ref a' ∧ H a' = some (.ins C' dx' fs') ∧ Cls K C' ∧ NoAttr K C' ("side" : Str) ∧ fs'.lookup ("side" : Str) = some v' ∧ Q v' H := fldR h T.c_Space T.n_Space_side lSpace_side q
theorem pSpace_dimensions (x0 : V) : putF "dimensions" x0 ([] : List (Str × V)) = ([("dimensions", x0)] : List (Str × V)) := by kernel_rfl
theorem pSpace_bits (x0 x1 : V) : putF "bits" x1 ([("dimensions", x0)] : List (Str × V)) = ([("dimensions", x0), ("bits", x1)] : List (Str × V)) := by kernel_rfl
theorem pSpace_depth (x0 x1 x2 : V) : putF "depth" x2 ([("dimensions", x0), ("bits", x1)] : List (Str × V)) = ([("dimensions", x0), ("bits", x1), ("depth", x2)] : List (Str × V)) := by kernel_rfl
theorem pSpace_side (x0 x1 x2 x3 : V) : putF "side" x3 ([("dimensions", x0), ("bits", x1), ("depth", x2)] : List (Str × V)) = ([("dimensions", x0), ("bits", x1), ("depth", x2), ("side", x3)] : List (Str × V)) := by kernel_rfl
/-! ### Box -/
def flBox (sp lo hi : Addr) : List (Str × V) := [("space", .ref sp), ("lows", .ref lo), ("highs", .ref hi)]
theorem lBox_space {sp lo hi : Addr} : (flBox sp lo hi).lookup ("space" : Str) = some (.ref sp) := by kernel_rfl
theorem rBox_space {Q : VK} (T : Tx K mg) {sp lo hi : Addr} (h : H a = some (.ins (He.ga K "Box") dx (flBox sp lo hi))) (q : Q (.ref sp) H) : ∃ a' C' dx' fs' v', V.ref a = .ref a' ∧ H a' = some (.ins C' dx' fs') ∧ Cls K C' ∧ NoAttr K C' ("space" : Str) ∧ fs'.lookup ("space" : Str) = some v' ∧ Q v' H := fldR h T.c_Box T.n_Box_space lBox_space q
theorem lBox_lows {sp lo hi : Addr} : (flBox sp lo hi).lookup ("lows" : Str) = some (.ref lo) := by kernel_rfl
theorem rBox_lows {Q : VK} (T : Tx K mg) {sp lo hi : Addr} (h : H a = some (.ins (He.ga K "Box") dx (flBox sp lo hi))) (q : Q (.ref lo) H) : ∃ a' C' dx' fs' v', V.ref a = .ref a' ∧ H a' = some (.ins C' dx' fs') ∧ Cls K C' ∧ NoAttr K C' ("lows" : Str) ∧ fs'.lookup ("lows" : Str) = some v' ∧ Q v' H := fldR h T.c_Box T.n_Box_lows lBox_lows q
theorem lBox_highs {sp lo hi : Addr} : (flBox sp lo hi).lookup ("highs" : Str) = some (.ref hi) := by kernel_rfl
theorem rBox_highs {Q : VK} (T : Tx K mg) {sp lo hi : Addr} (h : H a = some (.ins (He.ga K "Box") dx (flBox sp lo hi))) (q : Q (.ref hi) H) : ∃ a' C' dx' fs' v', V.ref a = .ref a' ∧ H a' = some (.ins C' dx' fs') ∧ Cls K C' ∧ NoAttr K C' ("highs" : Str) ∧ fs'.lookup ("highs" : Str) = some v' ∧ Q v' H := fldR h T.c_Box T.n_Box_highs lBox_highs q
theorem pBox_space (x0 : V) : putF "space" x0 ([] : List (Str × V)) = ([("space", x0)] : List (Str × V)) := by kernel_rfl
theorem pBox_lows (x0 x1 : V) : putF "lows" x1 ([("space", x0)] : List (Str × V)) = ([("space", x0), ("lows", x1)] : List (Str × V)) := by kernel_rfl
theorem pBox_highs (x0 x1 x2 : V) : putF "highs" x2 ([("space", x0), ("lows", x1)] : List (Str × V)) = ([("space", x0), ("lows", x1), ("highs", x2)] : List (Str × V)) := by kernel_rfl
/-! ### Cloud -/
def flCloud (sp ro : Addr) : List (Str × V) := [("space", .ref sp), ("row", .ref ro)]
theorem lCloud_space {sp ro : Addr} : (flCloud sp ro).lookup ("space" : Str) = some (.ref sp) := by kernel_rfl
theorem rCloud_space {Q : VK} (T : Tx K mg) {sp ro : Addr} (h : H a = some (.ins (He.ga K "Cloud") dx (flCloud sp ro))) (q : Q (.ref sp) H) : ∃ a' C' dx' fs' v', V.ref a = .ref a' ∧ H a' = some (.ins C' dx' fs') ∧ Cls K C' ∧ NoAttr K C' ("space" : Str) ∧ fs'.lookup ("space" : Str) = some v' ∧ Q v' H := fldR h T.c_Cloud T.n_Cloud_space lCloud_space q
theorem lCloud_row {sp ro : Addr} : (flCloud sp ro).lookup ("row" : Str) = some (.ref ro) := by kernel_rfl
theorem rCloud_row {Q : VK} (T : Tx K mg) {sp ro : Addr} (h : H a = some (.ins (He.ga K "Cloud") dx (flCloud sp ro))) (q : Q (.ref ro) H) : ∃ a' C' dx' fs' v', V.ref a = .ref a' ∧ H a' = some (.ins C' dx' fs') ∧ Cls K C' ∧ NoAttr K C' ("row" : Str) ∧ fs'.lookup ("row" : Str) = some v' ∧ Q v' H := fldR h T.c_Cloud T.n_Cloud_row lCloud_row q
theorem pCloud_space (x0 : V) : putF "space" x0 ([] : List (Str × V)) = ([("space", x0)] : List (Str × V)) := by kernel_rfl
theorem pCloud_row (x0 x1 : V) : putF "row" x1 ([("space", x0)] : List (Str × V)) = ([("space", x0), ("row", x1)] : List (Str × V)) := by kernel_rfl
/-! ### Rest -/
def flRest (pr : Addr) (cn : V) (inn : Addr) : List (Str × V) := [("prefix", .ref pr), ("count", cn), ("inner", .ref inn)]
theorem lRest_prefix {pr : Addr} {cn : V} {inn : Addr} : (flRest pr cn inn).lookup ("prefix" : Str) = some (.ref pr) := by kernel_rfl
theorem rRest_prefix {Q : VK} (T : Tx K mg) {pr : Addr} {cn : V} {inn : Addr} (h : H a = some (.ins (He.ga K "Rest") dx (flRest pr cn inn))) (q : Q (.ref pr) H) : ∃ a' C' dx' fs' v', V.ref a = .ref a' ∧ H a' = some (.ins C' dx' fs') ∧ Cls K C' ∧ NoAttr K C' ("prefix" : Str) ∧ fs'.lookup ("prefix" : Str) = some v' ∧ Q v' H := fldR h T.c_Rest T.n_Rest_prefix lRest_prefix q
theorem lRest_count {pr : Addr} {cn : V} {inn : Addr} : (flRest pr cn inn).lookup ("count" : Str) = some (cn) := by kernel_rfl
theorem rRest_count {Q : VK} (T : Tx K mg) {pr : Addr} {cn : V} {inn : Addr} (h : H a = some (.ins (He.ga K "Rest") dx (flRest pr cn inn))) (q : Q (cn) H) : ∃ a' C' dx' fs' v', V.ref a = .ref a' ∧ H a' = some (.ins C' dx' fs') ∧ Cls K C' ∧ NoAttr K C' ("count" : Str) ∧ fs'.lookup ("count" : Str) = some v' ∧ Q v' H := fldR h T.c_Rest T.n_Rest_count lRest_count q
theorem lRest_inner {pr : Addr} {cn : V} {inn : Addr} : (flRest pr cn inn).lookup ("inner" : Str) = some (.ref inn) := by kernel_rfl
theorem rRest_inner {Q : VK} (T : Tx K mg) {pr : Addr} {cn : V} {inn : Addr} (h : H a = some (.ins (He.ga K "Rest") dx (flRest pr cn inn))) (q : Q (.ref inn) H) : ∃ a' C' dx' fs' v', V.ref a = .ref a' ∧ H a' = some (.ins C' dx' fs') ∧ Cls K C' ∧ NoAttr K C' ("inner" : Str) ∧ fs'.lookup ("inner" : Str) = some v' ∧ Q v' H := fldR h T.c_Rest T.n_Rest_inner lRest_inner q
theorem pRest_prefix (x0 : V) : putF "prefix" x0 ([] : List (Str × V)) = ([("prefix", x0)] : List (Str × V)) := by kernel_rfl
theorem pRest_count (x0 x1 : V) : putF "count" x1 ([("prefix", x0)] : List (Str × V)) = ([("prefix", x0), ("count", x1)] : List (Str × V)) := by kernel_rfl
theorem pRest_inner (x0 x1 x2 : V) : putF "inner" x2 ([("prefix", x0), ("count", x1)] : List (Str × V)) = ([("prefix", x0), ("count", x1), ("inner", x2)] : List (Str × V)) := by kernel_rfl
/-! ### Knowledge -/
def flKnowledge (sp fa : Addr) : List (Str × V) := [("space", .ref sp), ("facts", .ref fa)]
theorem lKnowledge_space {sp fa : Addr} : (flKnowledge sp fa).lookup ("space" : Str) = some (.ref sp) := by kernel_rfl
theorem rKnowledge_space {Q : VK} (T : Tx K mg) {sp fa : Addr} (h : H a = some (.ins (He.ga K "Knowledge") dx (flKnowledge sp fa))) (q : Q (.ref sp) H) : ∃ a' C' dx' fs' v', V.ref a = .ref a' ∧ H a' = some (.ins C' dx' fs') ∧ Cls K C' ∧ NoAttr K C' ("space" : Str) ∧ fs'.lookup ("space" : Str) = some v' ∧ Q v' H := fldR h T.c_Knowledge T.n_Knowledge_space lKnowledge_space q
theorem lKnowledge_facts {sp fa : Addr} : (flKnowledge sp fa).lookup ("facts" : Str) = some (.ref fa) := by kernel_rfl
theorem rKnowledge_facts {Q : VK} (T : Tx K mg) {sp fa : Addr} (h : H a = some (.ins (He.ga K "Knowledge") dx (flKnowledge sp fa))) (q : Q (.ref fa) H) : ∃ a' C' dx' fs' v', V.ref a = .ref a' ∧ H a' = some (.ins C' dx' fs') ∧ Cls K C' ∧ NoAttr K C' ("facts" : Str) ∧ fs'.lookup ("facts" : Str) = some v' ∧ Q v' H := fldR h T.c_Knowledge T.n_Knowledge_facts lKnowledge_facts q
theorem pKnowledge_space (x0 : V) : putF "space" x0 ([] : List (Str × V)) = ([("space", x0)] : List (Str × V)) := by kernel_rfl
theorem pKnowledge_facts (x0 x1 : V) : putF "facts" x1 ([("space", x0)] : List (Str × V)) = ([("space", x0), ("facts", x1)] : List (Str × V)) := by kernel_rfl
/-! ### Telling -/
def flTelling (cl sp fa bo : Addr) (fi : Int) (kn ho : Addr) : List (Str × V) := [("cloud", .ref cl), ("space", .ref sp), ("facts", .ref fa), ("box", .ref bo), ("fineness", .int fi), ("known", .ref kn), ("holders", .ref ho)]
theorem lTelling_cloud {cl sp fa bo : Addr} {fi : Int} {kn ho : Addr} : (flTelling cl sp fa bo fi kn ho).lookup ("cloud" : Str) = some (.ref cl) := by kernel_rfl
theorem rTelling_cloud {Q : VK} (T : Tx K mg) {cl sp fa bo : Addr} {fi : Int} {kn ho : Addr} (h : H a = some (.ins (He.ga K "Telling") dx (flTelling cl sp fa bo fi kn ho))) (q : Q (.ref cl) H) : ∃ a' C' dx' fs' v', V.ref a = .ref a' ∧ H a' = some (.ins C' dx' fs') ∧ Cls K C' ∧ NoAttr K C' ("cloud" : Str) ∧ fs'.lookup ("cloud" : Str) = some v' ∧ Q v' H := fldR h T.c_Telling T.n_Telling_cloud lTelling_cloud q
theorem lTelling_space {cl sp fa bo : Addr} {fi : Int} {kn ho : Addr} : (flTelling cl sp fa bo fi kn ho).lookup ("space" : Str) = some (.ref sp) := by kernel_rfl
theorem rTelling_space {Q : VK} (T : Tx K mg) {cl sp fa bo : Addr} {fi : Int} {kn ho : Addr} (h : H a = some (.ins (He.ga K "Telling") dx (flTelling cl sp fa bo fi kn ho))) (q : Q (.ref sp) H) : ∃ a' C' dx' fs' v', V.ref a = .ref a' ∧ H a' = some (.ins C' dx' fs') ∧ Cls K C' ∧ NoAttr K C' ("space" : Str) ∧ fs'.lookup ("space" : Str) = some v' ∧ Q v' H := fldR h T.c_Telling T.n_Telling_space lTelling_space q
theorem lTelling_facts {cl sp fa bo : Addr} {fi : Int} {kn ho : Addr} : (flTelling cl sp fa bo fi kn ho).lookup ("facts" : Str) = some (.ref fa) := by kernel_rfl
theorem rTelling_facts {Q : VK} (T : Tx K mg) {cl sp fa bo : Addr} {fi : Int} {kn ho : Addr} (h : H a = some (.ins (He.ga K "Telling") dx (flTelling cl sp fa bo fi kn ho))) (q : Q (.ref fa) H) : ∃ a' C' dx' fs' v', V.ref a = .ref a' ∧ H a' = some (.ins C' dx' fs') ∧ Cls K C' ∧ NoAttr K C' ("facts" : Str) ∧ fs'.lookup ("facts" : Str) = some v' ∧ Q v' H := fldR h T.c_Telling T.n_Telling_facts lTelling_facts q
theorem lTelling_box {cl sp fa bo : Addr} {fi : Int} {kn ho : Addr} : (flTelling cl sp fa bo fi kn ho).lookup ("box" : Str) = some (.ref bo) := by kernel_rfl
theorem rTelling_box {Q : VK} (T : Tx K mg) {cl sp fa bo : Addr} {fi : Int} {kn ho : Addr} (h : H a = some (.ins (He.ga K "Telling") dx (flTelling cl sp fa bo fi kn ho))) (q : Q (.ref bo) H) : ∃ a' C' dx' fs' v', V.ref a = .ref a' ∧ H a' = some (.ins C' dx' fs') ∧ Cls K C' ∧ NoAttr K C' ("box" : Str) ∧ fs'.lookup ("box" : Str) = some v' ∧ Q v' H := fldR h T.c_Telling T.n_Telling_box lTelling_box q
theorem lTelling_fineness {cl sp fa bo : Addr} {fi : Int} {kn ho : Addr} : (flTelling cl sp fa bo fi kn ho).lookup ("fineness" : Str) = some (.int fi) := by kernel_rfl
theorem rTelling_fineness {Q : VK} (T : Tx K mg) {cl sp fa bo : Addr} {fi : Int} {kn ho : Addr} (h : H a = some (.ins (He.ga K "Telling") dx (flTelling cl sp fa bo fi kn ho))) (q : Q (.int fi) H) : ∃ a' C' dx' fs' v', V.ref a = .ref a' ∧ H a' = some (.ins C' dx' fs') ∧ Cls K C' ∧ NoAttr K C' ("fineness" : Str) ∧ fs'.lookup ("fineness" : Str) = some v' ∧ Q v' H := fldR h T.c_Telling T.n_Telling_fineness lTelling_fineness q
theorem lTelling_known {cl sp fa bo : Addr} {fi : Int} {kn ho : Addr} : (flTelling cl sp fa bo fi kn ho).lookup ("known" : Str) = some (.ref kn) := by kernel_rfl
theorem rTelling_known {Q : VK} (T : Tx K mg) {cl sp fa bo : Addr} {fi : Int} {kn ho : Addr} (h : H a = some (.ins (He.ga K "Telling") dx (flTelling cl sp fa bo fi kn ho))) (q : Q (.ref kn) H) : ∃ a' C' dx' fs' v', V.ref a = .ref a' ∧ H a' = some (.ins C' dx' fs') ∧ Cls K C' ∧ NoAttr K C' ("known" : Str) ∧ fs'.lookup ("known" : Str) = some v' ∧ Q v' H := fldR h T.c_Telling T.n_Telling_known lTelling_known q
theorem lTelling_holders {cl sp fa bo : Addr} {fi : Int} {kn ho : Addr} : (flTelling cl sp fa bo fi kn ho).lookup ("holders" : Str) = some (.ref ho) := by kernel_rfl
theorem rTelling_holders {Q : VK} (T : Tx K mg) {cl sp fa bo : Addr} {fi : Int} {kn ho : Addr} (h : H a = some (.ins (He.ga K "Telling") dx (flTelling cl sp fa bo fi kn ho))) (q : Q (.ref ho) H) : ∃ a' C' dx' fs' v', V.ref a = .ref a' ∧ H a' = some (.ins C' dx' fs') ∧ Cls K C' ∧ NoAttr K C' ("holders" : Str) ∧ fs'.lookup ("holders" : Str) = some v' ∧ Q v' H := fldR h T.c_Telling T.n_Telling_holders lTelling_holders q
theorem pTelling_cloud (x0 : V) : putF "cloud" x0 ([] : List (Str × V)) = ([("cloud", x0)] : List (Str × V)) := by kernel_rfl
theorem pTelling_space (x0 x1 : V) : putF "space" x1 ([("cloud", x0)] : List (Str × V)) = ([("cloud", x0), ("space", x1)] : List (Str × V)) := by kernel_rfl
theorem pTelling_facts (x0 x1 x2 : V) : putF "facts" x2 ([("cloud", x0), ("space", x1)] : List (Str × V)) = ([("cloud", x0), ("space", x1), ("facts", x2)] : List (Str × V)) := by kernel_rfl
theorem pTelling_box (x0 x1 x2 x3 : V) : putF "box" x3 ([("cloud", x0), ("space", x1), ("facts", x2)] : List (Str × V)) = ([("cloud", x0), ("space", x1), ("facts", x2), ("box", x3)] : List (Str × V)) := by kernel_rfl
theorem pTelling_fineness (x0 x1 x2 x3 x4 : V) : putF "fineness" x4 ([("cloud", x0), ("space", x1), ("facts", x2), ("box", x3)] : List (Str × V)) = ([("cloud", x0), ("space", x1), ("facts", x2), ("box", x3), ("fineness", x4)] : List (Str × V)) := by kernel_rfl
theorem pTelling_known (x0 x1 x2 x3 x4 x5 : V) : putF "known" x5 ([("cloud", x0), ("space", x1), ("facts", x2), ("box", x3), ("fineness", x4)] : List (Str × V)) = ([("cloud", x0), ("space", x1), ("facts", x2), ("box", x3), ("fineness", x4), ("known", x5)] : List (Str × V)) := by kernel_rfl
theorem pTelling_holders (x0 x1 x2 x3 x4 x5 x6 : V) : putF "holders" x6 ([("cloud", x0), ("space", x1), ("facts", x2), ("box", x3), ("fineness", x4), ("known", x5)] : List (Str × V)) = ([("cloud", x0), ("space", x1), ("facts", x2), ("box", x3), ("fineness", x4), ("known", x5), ("holders", x6)] : List (Str × V)) := by kernel_rfl
theorem mSpace_is_point {R : Prop} {k : Kd} (h : H a = some (.ins (He.ga K "Space") dx (spF k))) (q : R) : ∃ a' dx' fs', V.ref a = .ref a' ∧ H a' = some (.ins (He.ga K "Space") dx' fs') ∧ fs'.lookup ("is_point" : Str) = none ∧ R := methR h (by kernel_rfl) q
theorem mSpace_check_point {R : Prop} {k : Kd} (h : H a = some (.ins (He.ga K "Space") dx (spF k))) (q : R) : ∃ a' dx' fs', V.ref a = .ref a' ∧ H a' = some (.ins (He.ga K "Space") dx' fs') ∧ fs'.lookup ("check_point" : Str) = none ∧ R := methR h (by kernel_rfl) q
theorem mSpace_woven {R : Prop} {k : Kd} (h : H a = some (.ins (He.ga K "Space") dx (spF k))) (q : R) : ∃ a' dx' fs', V.ref a = .ref a' ∧ H a' = some (.ins (He.ga K "Space") dx' fs') ∧ fs'.lookup ("woven" : Str) = none ∧ R := methR h (by kernel_rfl) q
theorem mSpace_point_of {R : Prop} {k : Kd} (h : H a = some (.ins (He.ga K "Space") dx (spF k))) (q : R) : ∃ a' dx' fs', V.ref a = .ref a' ∧ H a' = some (.ins (He.ga K "Space") dx' fs') ∧ fs'.lookup ("point_of" : Str) = none ∧ R := methR h (by kernel_rfl) q
theorem mSpace_size {R : Prop} {k : Kd} (h : H a = some (.ins (He.ga K "Space") dx (spF k))) (q : R) : ∃ a' dx' fs', V.ref a = .ref a' ∧ H a' = some (.ins (He.ga K "Space") dx' fs') ∧ fs'.lookup ("size" : Str) = none ∧ R := methR h (by kernel_rfl) q
theorem mSpace_is_prefix {R : Prop} {k : Kd} (h : H a = some (.ins (He.ga K "Space") dx (spF k))) (q : R) : ∃ a' dx' fs', V.ref a = .ref a' ∧ H a' = some (.ins (He.ga K "Space") dx' fs') ∧ fs'.lookup ("is_prefix" : Str) = none ∧ R := methR h (by kernel_rfl) q
theorem mSpace_cell {R : Prop} {k : Kd} (h : H a = some (.ins (He.ga K "Space") dx (spF k))) (q : R) : ∃ a' dx' fs', V.ref a = .ref a' ∧ H a' = some (.ins (He.ga K "Space") dx' fs') ∧ fs'.lookup ("cell" : Str) = none ∧ R := methR h (by kernel_rfl) q
theorem mBox_room {R : Prop} {sp lo hi : Addr} (h : H a = some (.ins (He.ga K "Box") dx (flBox sp lo hi))) (q : R) : ∃ a' dx' fs', V.ref a = .ref a' ∧ H a' = some (.ins (He.ga K "Box") dx' fs') ∧ fs'.lookup ("room" : Str) = none ∧ R := methR h (by kernel_rfl) q
theorem mCloud_count {R : Prop} {sp ro : Addr} (h : H a = some (.ins (He.ga K "Cloud") dx (flCloud sp ro))) (q : R) : ∃ a' dx' fs', V.ref a = .ref a' ∧ H a' = some (.ins (He.ga K "Cloud") dx' fs') ∧ fs'.lookup ("count" : Str) = none ∧ R := methR h (by kernel_rfl) q
theorem mKnowledge_is_fit {R : Prop} {sp fa : Addr} (h : H a = some (.ins (He.ga K "Knowledge") dx (flKnowledge sp fa))) (q : R) : ∃ a' dx' fs', V.ref a = .ref a' ∧ H a' = some (.ins (He.ga K "Knowledge") dx' fs') ∧ fs'.lookup ("is_fit" : Str) = none ∧ R := methR h (by kernel_rfl) q
theorem mKnowledge_rests {R : Prop} {sp fa : Addr} (h : H a = some (.ins (He.ga K "Knowledge") dx (flKnowledge sp fa))) (q : R) : ∃ a' dx' fs', V.ref a = .ref a' ∧ H a' = some (.ins (He.ga K "Knowledge") dx' fs') ∧ fs'.lookup ("rests" : Str) = none ∧ R := methR h (by kernel_rfl) q
theorem mKnowledge_next_inside {R : Prop} {sp fa : Addr} (h : H a = some (.ins (He.ga K "Knowledge") dx (flKnowledge sp fa))) (q : R) : ∃ a' dx' fs', V.ref a = .ref a' ∧ H a' = some (.ins (He.ga K "Knowledge") dx' fs') ∧ fs'.lookup ("next_inside" : Str) = none ∧ R := methR h (by kernel_rfl) q
theorem mKnowledge_points_left {R : Prop} {sp fa : Addr} (h : H a = some (.ins (He.ga K "Knowledge") dx (flKnowledge sp fa))) (q : R) : ∃ a' dx' fs', V.ref a = .ref a' ∧ H a' = some (.ins (He.ga K "Knowledge") dx' fs') ∧ fs'.lookup ("points_left" : Str) = none ∧ R := methR h (by kernel_rfl) q
theorem mKnowledge_room {R : Prop} {sp fa : Addr} (h : H a = some (.ins (He.ga K "Knowledge") dx (flKnowledge sp fa))) (q : R) : ∃ a' dx' fs', V.ref a = .ref a' ∧ H a' = some (.ins (He.ga K "Knowledge") dx' fs') ∧ fs'.lookup ("room" : Str) = none ∧ R := methR h (by kernel_rfl) q
theorem mKnowledge_room_in {R : Prop} {sp fa : Addr} (h : H a = some (.ins (He.ga K "Knowledge") dx (flKnowledge sp fa))) (q : R) : ∃ a' dx' fs', V.ref a = .ref a' ∧ H a' = some (.ins (He.ga K "Knowledge") dx' fs') ∧ fs'.lookup ("room_in" : Str) = none ∧ R := methR h (by kernel_rfl) q
theorem mKnowledge_bounds {R : Prop} {sp fa : Addr} (h : H a = some (.ins (He.ga K "Knowledge") dx (flKnowledge sp fa))) (q : R) : ∃ a' dx' fs', V.ref a = .ref a' ∧ H a' = some (.ins (He.ga K "Knowledge") dx' fs') ∧ fs'.lookup ("bounds" : Str) = none ∧ R := methR h (by kernel_rfl) q
theorem mKnowledge_known {R : Prop} {sp fa : Addr} (h : H a = some (.ins (He.ga K "Knowledge") dx (flKnowledge sp fa))) (q : R) : ∃ a' dx' fs', V.ref a = .ref a' ∧ H a' = some (.ins (He.ga K "Knowledge") dx' fs') ∧ fs'.lookup ("known" : Str) = none ∧ R := methR h (by kernel_rfl) q
theorem mTelling_is_cell {R : Prop} {cl sp fa bo : Addr} {fi : Int} {kn ho : Addr} (h : H a = some (.ins (He.ga K "Telling") dx (flTelling cl sp fa bo fi kn ho))) (q : R) : ∃ a' dx' fs', V.ref a = .ref a' ∧ H a' = some (.ins (He.ga K "Telling") dx' fs') ∧ fs'.lookup ("is_cell" : Str) = none ∧ R := methR h (by kernel_rfl) q
theorem mTelling_is_needed {R : Prop} {cl sp fa bo : Addr} {fi : Int} {kn ho : Addr} (h : H a = some (.ins (He.ga K "Telling") dx (flTelling cl sp fa bo fi kn ho))) (q : R) : ∃ a' dx' fs', V.ref a = .ref a' ∧ H a' = some (.ins (He.ga K "Telling") dx' fs') ∧ fs'.lookup ("is_needed" : Str) = none ∧ R := methR h (by kernel_rfl) q
theorem mTelling_told {R : Prop} {cl sp fa bo : Addr} {fi : Int} {kn ho : Addr} (h : H a = some (.ins (He.ga K "Telling") dx (flTelling cl sp fa bo fi kn ho))) (q : R) : ∃ a' dx' fs', V.ref a = .ref a' ∧ H a' = some (.ins (He.ga K "Telling") dx' fs') ∧ fs'.lookup ("told" : Str) = none ∧ R := methR h (by kernel_rfl) q
theorem mTelling_both {R : Prop} {cl sp fa bo : Addr} {fi : Int} {kn ho : Addr} (h : H a = some (.ins (He.ga K "Telling") dx (flTelling cl sp fa bo fi kn ho))) (q : R) : ∃ a' dx' fs', V.ref a = .ref a' ∧ H a' = some (.ins (He.ga K "Telling") dx' fs') ∧ fs'.lookup ("both" : Str) = none ∧ R := methR h (by kernel_rfl) q
theorem mTelling_least {R : Prop} {cl sp fa bo : Addr} {fi : Int} {kn ho : Addr} (h : H a = some (.ins (He.ga K "Telling") dx (flTelling cl sp fa bo fi kn ho))) (q : R) : ∃ a' dx' fs', V.ref a = .ref a' ∧ H a' = some (.ins (He.ga K "Telling") dx' fs') ∧ fs'.lookup ("least" : Str) = none ∧ R := methR h (by kernel_rfl) q
theorem mTelling_within {R : Prop} {cl sp fa bo : Addr} {fi : Int} {kn ho : Addr} (h : H a = some (.ins (He.ga K "Telling") dx (flTelling cl sp fa bo fi kn ho))) (q : R) : ∃ a' dx' fs', V.ref a = .ref a' ∧ H a' = some (.ins (He.ga K "Telling") dx' fs') ∧ fs'.lookup ("within" : Str) = none ∧ R := methR h (by kernel_rfl) q
theorem mTelling_ends {R : Prop} {cl sp fa bo : Addr} {fi : Int} {kn ho : Addr} (h : H a = some (.ins (He.ga K "Telling") dx (flTelling cl sp fa bo fi kn ho))) (q : R) : ∃ a' dx' fs', V.ref a = .ref a' ∧ H a' = some (.ins (He.ga K "Telling") dx' fs') ∧ fs'.lookup ("ends" : Str) = none ∧ R := methR h (by kernel_rfl) q
theorem mTelling_way {R : Prop} {cl sp fa bo : Addr} {fi : Int} {kn ho : Addr} (h : H a = some (.ins (He.ga K "Telling") dx (flTelling cl sp fa bo fi kn ho))) (q : R) : ∃ a' dx' fs', V.ref a = .ref a' ∧ H a' = some (.ins (He.ga K "Telling") dx' fs') ∧ fs'.lookup ("way" : Str) = none ∧ R := methR h (by kernel_rfl) q
theorem mTelling_way_of {R : Prop} {cl sp fa bo : Addr} {fi : Int} {kn ho : Addr} (h : H a = some (.ins (He.ga K "Telling") dx (flTelling cl sp fa bo fi kn ho))) (q : R) : ∃ a' dx' fs', V.ref a = .ref a' ∧ H a' = some (.ins (He.ga K "Telling") dx' fs') ∧ fs'.lookup ("way_of" : Str) = none ∧ R := methR h (by kernel_rfl) q
theorem mTelling_cell_way {R : Prop} {cl sp fa bo : Addr} {fi : Int} {kn ho : Addr} (h : H a = some (.ins (He.ga K "Telling") dx (flTelling cl sp fa bo fi kn ho))) (q : R) : ∃ a' dx' fs', V.ref a = .ref a' ∧ H a' = some (.ins (He.ga K "Telling") dx' fs') ∧ fs'.lookup ("cell_way" : Str) = none ∧ R := methR h (by kernel_rfl) q
end
end Fc

set_option Elab.async false
set_option autoImplicit false
set_option linter.all false
set_option maxRecDepth 100000
/-! Walks: small functions. -/
namespace Fc
open PySem PySem.Spec PyProof.Rows L2
section
variable {P : Program} {w : World} {K : PySem.W.Frag} {mg : Str → Option Value} {base : Heap}
theorem two_line : 2 ≤ sizeLine := by decide
theorem int_dec (a b : Nat) : decide (V.int (a : Int) = V.int (b : Int)) = decide (a = b) := by
  by_cases z : a = b
  · rw [z]
    simp
  · rw [decide_eq_false z]
    refine decide_eq_false fun y => z ?_
    injection y with y
    omega
theorem fdivN (a b : Nat) : (a : Int).fdiv (b : Int) = ((a / b : Nat) : Int) := by
  rw [Int.fdiv_eq_ediv_of_nonneg _ (Int.natCast_nonneg _), Int.natCast_ediv]
/-! ### power -/
def spPower : Sp := fun vs H Q _ => ∃ n : Nat, vs = [.int (n : Int)] ∧ n ≤ 100 ∧ Q (.int ((2 ^ n : Nat) : Int)) H
theorem sc_power : FnScope ["times", "found", "turn"] ["times"] d_power.scope := ⟨rfl, rfl, rfl, by decide +kernel, rfl, by decide +kernel, by decide +kernel⟩
theorem ok_power  (T : Tx K mg) : Ok P w K mg base 1 d_power ["times"] spPower := by
  refine T.at_power.ok sc_power (fun vs H Q E h => ?_) (fun _ _ _ _ _ _ us hl => match us, hl with | [_], _ => rfl) (fun cdv A outer s H vs Q E hr h => ?_)
  · obtain ⟨_, rfl, _⟩ := h; rfl
  · obtain ⟨n, rfl, hn, q⟩ := h
    refine ⟨_, pss_cons (ps_set (i := 1) sc_power.nd rfl (Or.inl rfl) pe_int) (pss_cons (ps_for PassesOwn.never rfl (pi_range1 rfl T.f_range (pa_cons (pv 0) pa_nil)) (pg_name (i := 2) sc_power.nd rfl (Or.inl rfl)) (pss_one (ps_set (i := 1) sc_power.nd rfl (Or.inl rfl) (pe_op op_mul (pv 1) pe_int)))) (pss_one (ps_ret (pv 1)))), ?_⟩
    refine ⟨_, rfl, (n : Int), rfl, by omega, by omega, ?_⟩
    refine for_range (lo := 0) (n := n) (fun i σ H2 => H2 = H ∧ ∃ u, σ = [some (.int (n : Int)), some (.int ((2 ^ i : Nat) : Int)), u]) ⟨rfl, none, rfl⟩ ?_ ?_
    · rintro i σ H2 hi ⟨rfl, u, rfl⟩
      refine ⟨_, rfl, _, _, rfl, rfl, .inr ⟨by decide, by decide⟩, rfl, some (.int (0 + i)), ?_⟩
      rw [Nat.pow_succ, Int.natCast_mul]
      rfl
    · rintro σ H2 ⟨rfl, u, rfl⟩
      exact ⟨_, rfl, q⟩
/-! ### halves_of -/
def spHalves : Sp := fun vs H Q _ => ∃ (a : Addr) (p : Pf), vs = [.ref a] ∧ PfAt H a p ∧ ∀ H' b x y, Same H H' → H' b = some (.tup [.ref x, .ref y]) → PfAt H' x (p.1 + 1, 2 * p.2) → PfAt H' y (p.1 + 1, 2 * p.2 + 1) → Q (.ref b) H'
theorem sc_halves_of : FnScope ["prefix"] ["prefix"] d_halves_of.scope := ⟨rfl, rfl, rfl, by decide +kernel, rfl, by decide +kernel, by decide +kernel⟩
theorem ok_halves_of  (T : Tx K mg) : Ok P w K mg base 1 d_halves_of ["prefix"] spHalves := by
  refine T.at_halves_of.ok sc_halves_of (fun vs H Q E h => ?_) (fun _ _ _ _ _ _ us hl => match us, hl with | [_], _ => rfl) (fun cdv A outer s H vs Q E hr h => ?_)
  · obtain ⟨_, _, rfl, _⟩ := h; rfl
  · obtain ⟨a, p, rfl, hp, q⟩ := h
    refine ⟨_, pss_one (ps_ret (pe_tup (pa_cons (pe_tup (pa_cons (pe_op op_add (pe_ix ix_tup (pv 0) pe_int (fun _ _ => rfl)) pe_int) (pa_cons (pe_op op_mul pe_int (pe_ix ix_tup (pv 0) pe_int (fun _ _ => rfl))) pa_nil))) (pa_cons (pe_tup (pa_cons (pe_op op_add (pe_ix ix_tup (pv 0) pe_int (fun _ _ => rfl)) pe_int) (pa_cons (pe_op op_add (pe_op op_mul pe_int (pe_ix ix_tup (pv 0) pe_int (fun _ _ => rfl))) pe_int) pa_nil))) pa_nil)))), ?_⟩
    refine ⟨_, rfl, _, _, 0, _, rfl, rfl, hp.sq, atI_nat (j := 0) rfl, _, _, rfl, rfl, _, rfl, _, _, 1, _, rfl, rfl, hp.sq, atI_nat (j := 1) rfl, _, _, rfl, rfl, .inl ⟨by decide, by decide⟩, two_line, fun t ht => ?_⟩
    have s1 := Same.new (o := .tup [.int ((p.1 : Int) + 1), .int (2 * (p.2 : Int))]) ht
    refine ⟨_, rfl, _, _, 0, _, rfl, rfl, (hp.same s1).sq, atI_nat (j := 0) rfl, _, _, rfl, rfl, _, rfl, _, _, 1, _, rfl, rfl, (hp.same s1).sq, atI_nat (j := 1) rfl, _, _, rfl, rfl, .inl ⟨by decide, by decide⟩, _, _, rfl, rfl, two_line, fun t2 ht2 => ?_⟩
    have s2 := Same.new (o := .tup [.int ((p.1 : Int) + 1), .int (2 * (p.2 : Int) + 1)]) ht2
    refine ⟨two_line, fun t3 ht3 => ?_⟩
    have s3 := Same.new (o := .tup [.ref t, .ref t2]) ht3
    exact q _ t3 t t2 ((s1.trans s2).trans s3) upd_same (s3 _ _ (s2 _ _ upd_same)) (s3 _ _ upd_same)
/-! ### is_whole -/
def spWhole : Sp := fun vs H Q _ => ∃ t lo hi : Int, vs = [.int t, .int lo, .int hi] ∧ Q (.bl (decide (lo ≤ t) && decide (t ≤ hi))) H
theorem sc_is_whole : FnScope ["thing", "low", "high"] ["thing", "low", "high"] d_is_whole.scope := ⟨rfl, rfl, rfl, by decide +kernel, rfl, by decide +kernel, by decide +kernel⟩
theorem ok_is_whole  (T : Tx K mg) : Ok P w K mg base 1 d_is_whole ["thing", "low", "high"] spWhole := by
  refine T.at_is_whole.ok sc_is_whole (fun vs H Q E h => ?_) (fun _ _ _ _ _ _ us hl => match us, hl with | [_, _, _], _ => rfl) (fun cdv A outer s H vs Q E hr h => ?_)
  · obtain ⟨_, _, _, rfl, _⟩ := h; rfl
  · obtain ⟨t, lo, hi, rfl, q⟩ := h
    refine ⟨_, pss_one (ps_ret (pe_and (pe_callB call_isi rfl T.f_isinstance (by decide +kernel) (pa_cons (pv 0) (pa_cons (pe_bltn rfl T.f_int (v := .ty "int") (by decide +kernel) rfl) pa_nil)))
      (pe_and (pe_not (pe_callB call_isi rfl T.f_isinstance (by decide +kernel) (pa_cons (pv 0) (pa_cons (pe_bltn rfl T.f_bool (v := .ty "bool") (by decide +kernel) rfl) pa_nil)))) (pe_one (pe_chain op_le op_le (pv 1) (pv 0) (pv 2)))))), ?_⟩
    refine ⟨_, rfl, _, _, _, _, true, rfl, .ty "int", .base (.int t), kit_ty (by decide +kernel), true, rfl, iteT ?_⟩
    refine ⟨_, rfl, _, _, _, _, false, rfl, .ty "bool", .base (.int t), kit_ty (by decide +kernel), _, rfl, true, rfl, iteT ?_⟩
    refine ⟨_, rfl, _, rfl, _, _, rfl, rfl, _, rfl, ?_⟩
    cases e : decide (lo ≤ t) with
    | false =>
      refine iteF ?_
      rw [e] at q
      exact q
    | true =>
      refine iteT ⟨_, rfl, _, _, rfl, rfl, ?_⟩
      rw [e] at q
      exact q
/-! ### Space.size -/
def spSize (K : PySem.W.Frag) : Sp := fun vs H Q _ => ∃ (a b : Addr) (k : Kd) (p : Pf), vs = [.ref a, .ref b] ∧ SpaceAt K H a k ∧ PfAt H b p ∧ p.1 ≤ k.D ∧ Q (.int ((2 ^ (k.D - p.1) : Nat) : Int)) H
theorem sc_Space_size : FnScope ["self", "prefix"] ["self", "prefix"] d_Space_size.scope := ⟨rfl, rfl, rfl, by decide +kernel, rfl, by decide +kernel, by decide +kernel⟩
theorem ok_Space_size  (T : Tx K mg) : Ok P w K mg base 2 d_Space_size ["self", "prefix"] (spSize K) := by
  refine T.at_Space_size.ok sc_Space_size (fun vs H Q E h => ?_) (fun _ _ _ _ _ _ us hl => match us, hl with | [_, _], _ => rfl) (fun cdv A outer s H vs Q E hr h => ?_)
  · obtain ⟨_, _, _, _, rfl, _⟩ := h; rfl
  · obtain ⟨a, b, k, p, rfl, ⟨hk, dx, hS⟩, hp, hl, q⟩ := h
    refine ⟨_, pss_one (ps_ret (pe_fc (ok_power T) hr (by decide) rfl T.g_power (pa_cons (pe_op op_sub (pe_fld (pv 0) rfl) (pe_ix ix_tup (pv 1) pe_int (fun _ _ => rfl))) pa_nil))), ?_⟩
    refine ⟨_, rfl, _, _, _, _, _, rfl, hS, T.c_Space, T.n_Space_depth, lSpace_depth, _, rfl, _, _, 0, _, rfl, rfl, hp.sq, atI_nat (j := 0) rfl, _, _, rfl, rfl, k.D - p.1, ?_, ?_, q⟩
    · exact congrArg (fun z => [V.int z]) (by omega)
    · have := kinds_le hk; omega
/-! ### is_inside -/
def spInside : Sp := fun vs H Q _ => ∃ (a b : Addr) (p r : Pf), vs = [.ref a, .ref b] ∧ PfAt H a p ∧ PfAt H b r ∧ p.1 ≤ 3 ∧ Q (.bl (isIn p r)) H
theorem sc_is_inside : FnScope ["prefix", "other"] ["prefix", "other"] d_is_inside.scope := ⟨rfl, rfl, rfl, by decide +kernel, rfl, by decide +kernel, by decide +kernel⟩
theorem ok_is_inside  (T : Tx K mg) : Ok P w K mg base 2 d_is_inside ["prefix", "other"] spInside := by
  refine T.at_is_inside.ok sc_is_inside (fun vs H Q E h => ?_) (fun _ _ _ _ _ _ us hl => match us, hl with | [_, _], _ => rfl) (fun cdv A outer s H vs Q E hr h => ?_)
  · obtain ⟨_, _, _, _, rfl, _⟩ := h; rfl
  · obtain ⟨a, b, p, r, rfl, hp, hq, hl, q⟩ := h
    refine ⟨_, pss_one (ps_ret (pe_and (pe_cmpR op_ge (pe_ix ix_tup (pv 0) pe_int (fun _ _ => rfl)) (pe_ix ix_tup (pv 1) pe_int (fun _ _ => rfl)) (nomark _)) (pe_one (pe_cmpR op_eq (pe_op op_fdivN (pe_ix ix_tup (pv 0) pe_int (fun _ _ => rfl)) (pe_fc (ok_power T) hr (by decide) rfl T.g_power (pa_cons (pe_op op_sub (pe_ix ix_tup (pv 0) pe_int (fun _ _ => rfl)) (pe_ix ix_tup (pv 1) pe_int (fun _ _ => rfl))) pa_nil))) (pe_ix ix_tup (pv 1) pe_int (fun _ _ => rfl)) (nomark _))))), ?_⟩
    refine ⟨_, rfl, _, _, 0, _, rfl, rfl, hp.sq, atI_nat (j := 0) rfl, _, rfl, _, _, 0, _, rfl, rfl, hq.sq, atI_nat (j := 0) rfl, _, _, rfl, rfl, _, rfl, ?_⟩
    unfold isIn at q
    by_cases g : r.1 ≤ p.1
    · have e1 : decide ((p.1 : Int) ≥ (r.1 : Int)) = true := decide_eq_true (by omega)
      rw [e1]
      rw [decide_eq_true g, Bool.true_and] at q
      refine iteT ⟨_, rfl, _, _, 1, _, rfl, rfl, hp.sq, atI_nat (j := 1) rfl, _, rfl, _, _, 0, _, rfl, rfl, hp.sq, atI_nat (j := 0) rfl, _, rfl, _, _, 0, _, rfl, rfl, hq.sq, atI_nat (j := 0) rfl, _, _, rfl, rfl, p.1 - r.1, congrArg (fun z => [V.int z]) (by omega), by omega, _, _, rfl, rfl, ⟨?_, ?_⟩, _, rfl, _, _, 1, _, rfl, rfl, hq.sq, atI_nat (j := 1) rfl, rfl, ?_⟩
      · have := Nat.two_pow_pos (p.1 - r.1)
        omega
      · show 2 ^ (p.1 - r.1) < 1073741824
        have : 2 ^ (p.1 - r.1) ≤ 2 ^ 3 := Nat.pow_le_pow_right (by decide) (by omega)
        omega
      · show Q (V.bl (decide (V.int ((p.2 : Int).fdiv ((2 ^ (p.1 - r.1) : Nat) : Int)) = V.int ((r.2 : Nat) : Int)))) H
        rw [fdivN, int_dec]
        exact q
    · have e1 : decide ((p.1 : Int) ≥ (r.1 : Int)) = false := decide_eq_false (by omega)
      rw [e1]
      rw [decide_eq_false g, Bool.false_and] at q
      exact iteF q
end
end Fc

set_option Elab.async false
set_option autoImplicit false
set_option linter.all false
set_option maxRecDepth 100000
/-! Walks: places, points. -/
namespace Fc
open PySem PySem.Spec PyProof.Rows L2
/-- numbers as values -/
abbrev nV (x : Nat) : V := .int (x : Int)
/-- a tuple of numbers -/
def TupN (H : Hp) (a : Addr) (ns : List Nat) : Prop := H a = some (.tup (ns.map nV))
theorem TupN.same {H H' : Hp} {a : Addr} {ns : List Nat} (s : Same H H') (h : TupN H a ns) : TupN H' a ns := s _ _ h
theorem TupN.sq {K : PySem.W.Frag} {H : Hp} {a : Addr} {ns : List Nat} (h : TupN H a ns) : SqT K H a (ns.map nV) := SqT.of h
/-- the places of a point: the list and what a bit is worth, turn by turn -/
def ptL (k : Kd) (n : Nat) : Nat → List Nat × Nat
  | 0 => (List.replicate k.1 0, 2 ^ k.D / 2)
  | i + 1 => ((ptL k n i).1.set (i % k.1) ((ptL k n i).1.getD (i % k.1) 0 * 2 + n / (ptL k n i).2 % 2), max 1 ((ptL k n i).2 / 2))
def ptOf (k : Kd) (n : Nat) : List Nat := (ptL k n k.D).1
theorem ptL_len (k : Kd) (n : Nat) : ∀ i, (ptL k n i).1.length = k.1
  | 0 => by simp [ptL]
  | i + 1 => by simp [ptL, ptL_len k n i]
theorem ptL_pos {k : Kd} (hk : k ∈ kinds) (n : Nat) : ∀ i, 1 ≤ (ptL k n i).2 ∧ (ptL k n i).2 ≤ 4
  | 0 => by
    have := kinds_le hk
    show 1 ≤ 2 ^ k.D / 2 ∧ 2 ^ k.D / 2 ≤ 4
    have e : k.D = 2 ∨ k.D = 3 := by omega
    rcases e with e | e <;> rw [e] <;> decide
  | i + 1 => by
    have := ptL_pos hk n i
    show 1 ≤ max 1 ((ptL k n i).2 / 2) ∧ max 1 ((ptL k n i).2 / 2) ≤ 4
    omega
section
variable {P : Program} {w : World} {K : PySem.W.Frag} {mg : Str → Option Value} {base : Heap}
theorem fmodN (a b : Nat) : (a : Int) % (b : Int) = ((a % b : Nat) : Int) := (Int.natCast_emod a b).symm
theorem ixN_nat {n j : Nat} (h : j < n) : ixN n (j : Int) = some j := by
  unfold ixN
  rw [if_pos (Int.natCast_nonneg _), if_pos (by omega)]
  rfl
/-! ### place_in -/
def spPlace : Sp := fun vs H Q _ => ∃ (a : Addr) (xs : List Int) (n : Int), vs = [.ref a, .int n] ∧ TupI H a xs ∧ xs.Pairwise (· < ·) ∧ xs.length ≤ 1000 ∧
  ∀ c : Nat, c ≤ xs.length → (∀ j y, j < c → xs[j]? = some y → y < n) → (∀ j y, c ≤ j → xs[j]? = some y → n ≤ y) → Q (.int (c : Int)) H
theorem sc_place_in : FnScope ["row", "number", "low", "high", "middle"] ["row", "number"] d_place_in.scope := ⟨rfl, rfl, rfl, by decide +kernel, rfl, by decide +kernel, by decide +kernel⟩
theorem ok_place_in  (T : Tx K mg) : Ok P w K mg base 1 d_place_in ["row", "number"] spPlace := by
  refine T.at_place_in.ok sc_place_in (fun vs H Q E h => ?_) (fun _ _ _ _ _ _ us hl => match us, hl with | [_, _], _ => rfl) (fun cdv A outer s H vs Q E hr h => ?_)
  · obtain ⟨_, _, _, rfl, _⟩ := h; rfl
  · obtain ⟨a, xs, n, rfl, ha, hs, hl, q⟩ := h
    refine ⟨_, pss_cons (ps_par (i := 2) (j := 3) (by rfl) sc_place_in.nd rfl rfl (by decide) rfl rfl (pa_cons pe_int (pa_cons (pe_callB call_len_seq rfl T.f_len (by decide +kernel) (pa_cons (pv 0) pa_nil)) pa_nil)) (by rfl)) (pss_cons (ps_while PassesOwn.never (pt_cmpR op_lt (pv 2) (pv 3) (nomark _)) (pss_cons (ps_set (i := 4) sc_place_in.nd rfl (Or.inl rfl) (pe_op op_fdiv (pe_op op_add (pv 2) (pv 3)) pe_int)) (pss_one (ps_if (pt_cmpR op_lt (pe_ix ix_tup (pv 0) (pv 4) (fun _ _ => rfl)) (pv 1) (nomark _)) (pss_one (ps_set (i := 2) sc_place_in.nd rfl (Or.inl rfl) (pe_op op_add (pv 4) pe_int))) (pss_one (ps_set (i := 3) sc_place_in.nd rfl (Or.inl rfl) (pv 4))))))) (pss_one (ps_ret (pv 2)))), ?_⟩
    have hlen : (xs.map V.int).length = xs.length := List.length_map ..
    refine ⟨_, rfl, a, xs.map V.int, rfl, .inr ha.sq, _, _, rfl, ?_⟩
    refine ⟨fun m σ H2 => H2 = H ∧ ∃ (lo hi : Nat) (u : Option V), σ = [some (.ref a), some (.int n), some (.int (lo : Int)), some (.int (hi : Int)), u] ∧ lo ≤ hi ∧ hi ≤ xs.length ∧ m = hi - lo ∧
      (∀ j y, j < lo → xs[j]? = some y → y < n) ∧ (∀ j y, hi ≤ j → xs[j]? = some y → n ≤ y), ⟨xs.length, rfl, 0, xs.length, none, ?_, Nat.zero_le _, Nat.le_refl _, rfl, fun j y h => absurd h (Nat.not_lt_zero _), fun j y h e => ?_⟩, ?_⟩
    · rw [hlen]
      rfl
    · rw [List.getElem?_eq_none h] at e
      cases e
    · rintro m σ H2 ⟨rfl, lo, hi, u, rfl, h1, h2, rfl, h3, h4⟩
      refine ⟨_, rfl, _, rfl, _, _, rfl, rfl, _, rfl, ?_⟩
      by_cases g : lo < hi
      · have e1 : decide ((lo : Int) < (hi : Int)) = true := decide_eq_true (by omega)
        rw [e1]
        refine iteT ?_
        have em : (((lo : Int) + (hi : Int)) / 2) = (((lo + hi) / 2 : Nat) : Int) := by omega
        have lm : (lo + hi) / 2 < xs.length := by omega
        refine ⟨fun σ' H' => ∃ m', m' < hi - lo ∧ H' = H2 ∧ ∃ (lo hi : Nat) (u : Option V), σ' = [some (.ref a), some (.int n), some (.int (lo : Int)), some (.int (hi : Int)), u] ∧ lo ≤ hi ∧ hi ≤ xs.length ∧ m' = hi - lo ∧
          (∀ j y, j < lo → xs[j]? = some y → y < n) ∧ (∀ j y, hi ≤ j → xs[j]? = some y → n ≤ y), fun σ' H' z => z, ?_⟩
        refine ⟨_, rfl, _, rfl, _, _, rfl, rfl, _, _, rfl, rfl, ⟨by decide, by decide⟩, ?_⟩
        refine ⟨_, rfl, _, rfl, a, _, _, V.int xs[(lo + hi) / 2], rfl, rfl, ha.sq, (by rw [em]; exact atI_nat (by simp [lm])), _, rfl, _, _, rfl, rfl, _, rfl, ?_⟩
        have below : ∀ j y, j ≤ (lo + hi) / 2 → xs[j]? = some y → y ≤ xs[(lo + hi) / 2] := fun j y hj hy => by
          obtain ⟨h5, h6⟩ := List.getElem?_eq_some_iff.mp hy
          rw [← h6]
          by_cases z : j = (lo + hi) / 2
          · subst z
            exact Int.le_refl _
          · exact Int.le_of_lt (List.pairwise_iff_getElem.mp hs j _ h5 lm (by omega))
        have above : ∀ j y, (lo + hi) / 2 ≤ j → xs[j]? = some y → xs[(lo + hi) / 2] ≤ y := fun j y hj hy => by
          obtain ⟨h5, h6⟩ := List.getElem?_eq_some_iff.mp hy
          rw [← h6]
          by_cases z : j = (lo + hi) / 2
          · subst z
            exact Int.le_refl _
          · exact Int.le_of_lt (List.pairwise_iff_getElem.mp hs _ j lm h5 (by omega))
        by_cases g2 : xs[(lo + hi) / 2] < n
        · rw [decide_eq_true g2]
          refine iteT ⟨_, rfl, _, _, rfl, rfl, hi - ((lo + hi) / 2 + 1), by omega, rfl, (lo + hi) / 2 + 1, hi, some (.int (((lo + hi) / 2 : Nat) : Int)), ?_, by omega, h2, rfl, fun j y hj hy => ?_, h4⟩
          · show [_, _, some (V.int (((lo : Int) + (hi : Int)) / 2 + 1)), _, some (V.int (((lo : Int) + (hi : Int)) / 2))] = _
            rw [em]
            rfl
          · exact Int.lt_of_le_of_lt (below j y (by omega) hy) g2
        · rw [decide_eq_false g2]
          refine iteF ⟨_, rfl, (lo + hi) / 2 - lo, by omega, rfl, lo, (lo + hi) / 2, some (.int (((lo + hi) / 2 : Nat) : Int)), ?_, by omega, by omega, rfl, h3, fun j y hj hy => ?_⟩
          · show [_, _, _, some (V.int (((lo : Int) + (hi : Int)) / 2)), some (V.int (((lo : Int) + (hi : Int)) / 2))] = _
            rw [em]
          · exact Int.le_trans (Int.not_lt.mp g2) (above j y hj hy)
      · have e1 : decide ((lo : Int) < (hi : Int)) = false := decide_eq_false (by omega)
        rw [e1]
        refine iteF ?_
        have e2 : lo = hi := by omega
        subst e2
        exact ⟨_, rfl, q lo h2 h3 h4⟩
theorem rep_line {k : Kd} (hk : k ∈ kinds) : [V.int 0].length * (k.1 : Int).toNat ≤ sizeLine := by
  have := kinds_le hk
  have h : (1000 : Nat) ≤ sizeLine := by decide
  show 1 * k.1 ≤ sizeLine
  omega
/-! ### Space.point_of -/
def spPointOf (K : PySem.W.Frag) : Sp := fun vs H Q _ => ∃ (a : Addr) (k : Kd) (n : Nat), vs = [.ref a, .int (n : Int)] ∧ SpaceAt K H a k ∧ ∀ H' p, Same H H' → TupN H' p (ptOf k n) → Q (.ref p) H'
theorem sc_Space_point_of : FnScope ["self", "number", "found", "room", "turn", "axis"] ["self", "number"] d_Space_point_of.scope := ⟨rfl, rfl, rfl, by decide +kernel, rfl, by decide +kernel, by decide +kernel⟩
theorem ok_Space_point_of  (T : Tx K mg) : Ok P w K mg base 2 d_Space_point_of ["self", "number"] (spPointOf K) := by
  refine T.at_Space_point_of.ok sc_Space_point_of (fun vs H Q E h => ?_) (fun _ _ _ _ _ _ us hl => match us, hl with | [_, _], _ => rfl) (fun cdv A outer s H vs Q E hr h => ?_)
  · obtain ⟨_, _, _, rfl, _⟩ := h; rfl
  · obtain ⟨a, k, n, rfl, ⟨hk, dx, hS⟩, q⟩ := h
    have kl := kinds_le hk
    refine ⟨_, pss_cons (ps_par (i := 2) (j := 3) (by rfl) sc_Space_point_of.nd rfl rfl (by decide) rfl rfl (pa_cons (pe_op op_rep (pe_lst (pa_cons pe_int pa_nil)) (pe_fld (pv 0) rfl)) (pa_cons (pe_op op_fdiv (pe_fc (ok_power T) hr (by decide) rfl T.g_power (pa_cons (pe_fld (pv 0) rfl) pa_nil)) pe_int) pa_nil)) (by rfl)) (pss_cons (ps_for PassesOwn.never rfl (pi_range1 rfl T.f_range (pa_cons (pe_fld (pv 0) rfl) pa_nil)) (pg_name (i := 4) sc_Space_point_of.nd rfl (Or.inl rfl)) (pss_cons (ps_set (i := 5) sc_Space_point_of.nd rfl (Or.inl rfl) (pe_op op_modN (pe_callTy call_int1 rfl T.f_int (by decide +kernel) (pa_cons (pv 4) pa_nil)) (pe_fld (pv 0) rfl))) (pss_cons (ps_asg (pe_op op_add (pe_op op_mul (pe_ix ix_list (pv 2) (pv 5) (fun _ _ => rfl)) pe_int) (pe_op op_mod (pe_callTy call_int1 rfl T.f_int (by decide +kernel) (pa_cons (pe_op op_fdivN (pv 1) (pv 3)) pa_nil)) pe_int)) (pg_sub (pv 2) (pv 5) set_list)) (pss_one (ps_set (i := 3) sc_Space_point_of.nd rfl (Or.inl rfl) (pe_callB (call_max2 rfl) rfl T.f_max (by decide +kernel) (pa_cons pe_int (pa_cons (pe_op op_fdiv (pv 3) pe_int) pa_nil)))))))) (pss_one (ps_ret (pe_callTy call_tuple_of rfl T.f_tuple (by decide +kernel) (pa_cons (pv 2) pa_nil))))), ?_⟩
    refine ⟨(by show 1 ≤ sizeLine; decide), fun l hl => ?_⟩
    have s1 := Same.new (o := .lst [.int 0]) hl
    refine ⟨_, rfl, _, _, _, _, _, rfl, (s1 _ _ hS), T.c_Space, T.n_Space_dimensions, lSpace_dimensions, l, _, _, rfl, rfl, upd_same, by omega, by omega, rep_line hk, fun l2 hl2 => ?_⟩
    have e0 : (List.replicate (k.1 : Int).toNat [V.int 0]).flatten = ((ptL k n 0).1.map nV) := by
      show (List.replicate k.1 [V.int 0]).flatten = ((List.replicate k.1 0).map nV)
      rw [List.map_replicate]
      induction k.1 with
      | zero => rfl
      | succ m ih => rw [List.replicate_succ, List.replicate_succ, List.flatten_cons, ih]; rfl
    rw [e0]
    have s2 : Same H (upd (upd H l (.lst [.int 0])) l2 (.lst ((ptL k n 0).1.map nV))) := s1.trans (Same.new hl2)
    refine ⟨_, rfl, _, _, _, _, _, rfl, (s2 _ _ hS), T.c_Space, T.n_Space_depth, lSpace_depth, k.D, rfl, by omega, _, _, rfl, rfl, ⟨by decide, by decide⟩, _, _, rfl, ?_⟩
    have fr := s1.free hl2
    refine ⟨_, rfl, _, _, _, _, _, rfl, (s2 _ _ hS), T.c_Space, T.n_Space_depth, lSpace_depth, (k.D : Int), rfl, by omega, by omega, ?_⟩
    refine for_range (lo := 0) (n := k.D) (fun i σ H2 => Same H H2 ∧ H2 l2 = some (.lst ((ptL k n i).1.map nV)) ∧ ∃ u v, σ = [some (.ref a), some (.int (n : Int)), some (.ref l2), some (.int ((ptL k n i).2 : Int)), u, v]) ⟨s2, upd_same, none, none, ?_⟩ ?_ ?_
    · show [_, _, _, some (V.int (((2 ^ k.D : Nat) : Int) / 2)), _, _] = _
      rw [show ((2 ^ k.D : Nat) : Int) / 2 = ((2 ^ k.D / 2 : Nat) : Int) by omega]
      rfl
    · rintro i σ H2 hi ⟨s3, h3, u, v, rfl⟩
      have eax : ((0 : Int) + (i : Int)).fmod (k.1 : Int) = ((i % k.1 : Nat) : Int) := by
        rw [Int.zero_add, Int.fmod_eq_emod_of_nonneg _ (Int.natCast_nonneg _)]
        omega
      have lax : i % k.1 < k.1 := Nat.mod_lt _ (by omega)
      have pp := ptL_pos hk n i
      refine ⟨_, rfl, .inl ⟨_, rfl, _, rfl, _, _, _, _, _, rfl, (s3 _ _ hS), T.c_Space, T.n_Space_dimensions, lSpace_dimensions, _, _, rfl, rfl, by omega, ?_⟩⟩
      have hx : ((ptL k n i).1.map nV)[i % k.1]? = some (nV ((ptL k n i).1.getD (i % k.1) 0)) := by
        rw [List.getElem?_map, List.getD_eq_getElem?_getD]
        have : i % k.1 < (ptL k n i).1.length := by rw [ptL_len]; exact lax
        simp [this]
      refine ⟨_, rfl, _, rfl, l2, _, _, nV ((ptL k n i).1.getD (i % k.1) 0), rfl, rfl, SqL.of h3, (by show atI _ (((0 : Int) + (i : Int)).fmod (k.1 : Int)) = _; rw [eax]; exact atI_nat hx), _, _, rfl, rfl, .inr ⟨by decide, by decide⟩, ?_⟩
      refine ⟨_, rfl, _, rfl, _, _, rfl, rfl, ⟨by omega, by omega⟩, .inl ⟨_, rfl, _, _, rfl, rfl, (by show (0 : Int) < 2; decide), _, _, rfl, rfl, ?_⟩⟩
      refine ⟨_, rfl, _, rfl, l2, _, _, i % k.1, rfl, rfl, h3, (by show ixN _ (((0 : Int) + (i : Int)).fmod (k.1 : Int)) = _; rw [eax]; exact ixN_nat (by rw [List.length_map, ptL_len]; exact lax)), ?_⟩
      refine ⟨_, rfl, _, _, rfl, rfl, ⟨by decide, by decide⟩, _, _, rfl, ?_⟩
      refine ⟨fun b o e => ?_, upd_same.trans (congrArg (fun l => some (HO.lst l)) ?_), some (.int (0 + i)), some (nV (i % k.1)), ?_⟩
      · rw [upd_ne (ne_of_none e fr)]
        exact s3 b o e
      · show List.set _ _ (V.int (((ptL k n i).1.getD (i % k.1) 0 : Nat) * 2 + ((n : Int).fdiv ((ptL k n i).2 : Int)) % 2)) = ((ptL k n i).1.set (i % k.1) ((ptL k n i).1.getD (i % k.1) 0 * 2 + n / (ptL k n i).2 % 2)).map nV
        rw [List.map_set, fdivN]
        congr 2
      · show [_, _, _, some (V.int (if ((ptL k n i).2 : Int) / 2 > 1 then ((ptL k n i).2 : Int) / 2 else 1)), _, some (V.int (((0 : Int) + (i : Int)).fmod (k.1 : Int)))] = [_, _, _, some (V.int ((max 1 ((ptL k n i).2 / 2) : Nat) : Int)), _, _]
        rw [eax, show (if ((ptL k n i).2 : Int) / 2 > 1 then ((ptL k n i).2 : Int) / 2 else 1) = ((max 1 ((ptL k n i).2 / 2) : Nat) : Int) by split <;> omega]
    · rintro σ H2 ⟨s3, h3, u, v, rfl⟩
      exact ⟨_, rfl, l2, _, rfl, .inl ⟨SqL.of h3, fun p hp => q _ p (s3.trans (Same.new hp)) upd_same⟩⟩
end
end Fc

set_option Elab.async false
set_option autoImplicit false
set_option linter.all false
set_option maxRecDepth 100000
/-! Walks: cells, boxes, woven numbers. -/
namespace Fc
open PySem PySem.Spec PyProof.Rows L2
def loN (k : Kd) (p : Pf) : Nat := p.2 * 2 ^ (k.D - p.1)
def hiN (k : Kd) (p : Pf) : Nat := p.2 * 2 ^ (k.D - p.1) + 2 ^ (k.D - p.1) - 1
theorem pow_le8 {k : Kd} (hk : k ∈ kinds) (i : Nat) : 1 ≤ 2 ^ (k.D - i) ∧ 2 ^ (k.D - i) ≤ 8 := by
  have := kinds_le hk
  have h : k.D - i = 0 ∨ k.D - i = 1 ∨ k.D - i = 2 ∨ k.D - i = 3 := by omega
  rcases h with e | e | e | e <;> rw [e] <;> decide
def rmN (lo hi fi la : List Nat) : Nat → Nat
  | 0 => 1
  | i + 1 => rmN lo hi fi la i * (min (hi.getD i 0) (la.getD i 0) + 1 - max (lo.getD i 0) (fi.getD i 0))
def roomM (k : Kd) (lo hi : List Nat) (p : Pf) : Nat := rmN lo hi (ptOf k (loN k p)) (ptOf k (hiN k p)) k.1
/-- a point of the space -/
def PtOk (k : Kd) (pt : List Nat) : Prop := pt.length = k.1 ∧ ∀ x ∈ pt, x < 2 ^ k.2
theorem PtOk.lt8 {k : Kd} (hk : k ∈ kinds) {pt : List Nat} (h : PtOk k pt) : ∀ x ∈ pt, x < 8 := fun x hx => by
  have := h.2 x hx
  have l := kinds_le hk
  have : 2 ^ k.2 ≤ 2 ^ 3 := Nat.pow_le_pow_right (by decide) (by omega)
  omega
def BoxAt (K : PySem.W.Frag) (H : Hp) (a : Addr) (k : Kd) (lo hi : List Nat) : Prop :=
  ∃ dx sp al ah, H a = some (.ins (He.ga K "Box") dx (flBox sp al ah)) ∧ SpaceAt K H sp k ∧ TupN H al lo ∧ TupN H ah hi ∧ PtOk k lo ∧ PtOk k hi
theorem BoxAt.same {K : PySem.W.Frag} {H H' : Hp} {a : Addr} {k : Kd} {lo hi : List Nat} (s : Same H H') : BoxAt K H a k lo hi → BoxAt K H' a k lo hi :=
  fun ⟨dx, sp, al, ah, h1, h2, h3, h4, h5⟩ => ⟨dx, sp, al, ah, s _ _ h1, h2.same s, h3.same s, h4.same s, h5⟩
/-- the number of a point: half is what a bit of a place is worth -/
def wvRow (half : Nat) (pt : List Nat) (f : Nat) : Nat := pt.foldl (fun f x => f * 2 + x / half % 2) f
def wvL (k : Kd) (pt : List Nat) : Nat → Nat × Nat
  | 0 => (0, 2 ^ k.2 / 2)
  | i + 1 => (wvRow (wvL k pt i).2 pt (wvL k pt i).1, (wvL k pt i).2 / 2)
def wv (k : Kd) (pt : List Nat) : Nat := (wvL k pt k.2).1
theorem wvL_half (k : Kd) (pt : List Nat) : ∀ i, i < k.2 → (wvL k pt i).2 = 2 ^ (k.2 - 1 - i)
  | 0, h => by
    show 2 ^ k.2 / 2 = 2 ^ (k.2 - 1 - 0)
    have e : k.2 = (k.2 - 1) + 1 := by omega
    rw [e, Nat.pow_succ]
    simp
  | i + 1, h => by
    show (wvL k pt i).2 / 2 = _
    rw [wvL_half k pt i (by omega)]
    have e : k.2 - 1 - i = (k.2 - 1 - (i + 1)) + 1 := by omega
    rw [e, Nat.pow_succ]
    simp
section
variable {P : Program} {w : World} {K : PySem.W.Frag} {mg : Str → Option Value} {base : Heap}
theorem getD_map {xs : List Nat} {i : Nat} (h : i < xs.length) : (xs.map nV)[i]? = some (nV (xs.getD i 0)) := by
  rw [List.getElem?_map, List.getD_eq_getElem?_getD]
  simp [h]
/-! ### Space.cell -/
def spCell (K : PySem.W.Frag) : Sp := fun vs H Q _ => ∃ (a b : Addr) (k : Kd) (p : Pf), vs = [.ref a, .ref b] ∧ SpaceAt K H a k ∧ PfAt H b p ∧ p.1 ≤ k.D ∧
  ∀ H' r x y, Same H H' → H' r = some (.tup [.ref x, .ref y]) → TupN H' x (ptOf k (loN k p)) → TupN H' y (ptOf k (hiN k p)) → Q (.ref r) H'
theorem sc_Space_cell : FnScope ["self", "prefix", "first"] ["self", "prefix"] d_Space_cell.scope := ⟨rfl, rfl, rfl, by decide +kernel, rfl, by decide +kernel, by decide +kernel⟩
theorem ok_Space_cell  (T : Tx K mg) : Ok P w K mg base 3 d_Space_cell ["self", "prefix"] (spCell K) := by
  refine T.at_Space_cell.ok sc_Space_cell (fun vs H Q E h => ?_) (fun _ _ _ _ _ _ us hl => match us, hl with | [_, _], _ => rfl) (fun cdv A outer s H vs Q E hr h => ?_)
  · obtain ⟨_, _, _, _, rfl, _⟩ := h; rfl
  · obtain ⟨a, b, k, p, rfl, hS, hp, hl, q⟩ := h
    obtain ⟨dx, hS1⟩ := hS.2
    have p8 := pow_le8 hS.1 p.1
    refine ⟨_, pss_cons (ps_set (i := 2) sc_Space_cell.nd rfl (Or.inl rfl) (pe_op op_mul (pe_ix ix_tup (pv 1) pe_int (fun _ _ => rfl)) (pe_mc (pv 0) (ok_Space_size T) hr (by decide) T.c_Space T.t_Space_size (pa_cons (pv 1) pa_nil)))) (pss_one (ps_ret (pe_tup (pa_cons (pe_mc (pv 0) (ok_Space_point_of T) hr (by decide) T.c_Space T.t_Space_point_of (pa_cons (pv 2) pa_nil)) (pa_cons (pe_mc (pv 0) (ok_Space_point_of T) hr (by decide) T.c_Space T.t_Space_point_of (pa_cons (pe_op op_sub (pe_op op_add (pv 2) (pe_mc (pv 0) (ok_Space_size T) hr (by decide) T.c_Space T.t_Space_size (pa_cons (pv 1) pa_nil))) pe_int) pa_nil)) pa_nil))))), ?_⟩
    refine ⟨_, rfl, _, _, 1, _, rfl, rfl, hp.sq, atI_nat (j := 1) rfl, _, rfl, _, _, _, rfl, hS1, (by kernel_rfl), _, rfl, a, b, k, p, rfl, hS, hp, hl, _, _, rfl, rfl, .inr ⟨by omega, by omega⟩, ?_⟩
    refine ⟨_, rfl, _, _, _, rfl, hS1, (by kernel_rfl), _, rfl, a, k, loN k p, ?_, hS, fun H1 x s1 hx => ?_⟩
    · unfold loN
      rw [Int.natCast_mul]
      rfl
    obtain ⟨dx2, hS2⟩ := (hS.same s1).2
    refine ⟨_, rfl, _, _, _, rfl, hS2, (by kernel_rfl), _, rfl, _, rfl, _, _, _, rfl, hS2, (by kernel_rfl), _, rfl, a, b, k, p, rfl, hS.same s1, hp.same s1, hl, _, _, rfl, rfl, _, _, rfl, rfl, a, k, hiN k p, ?_, hS.same s1, fun H2 y s2 hy => ⟨two_line, fun r hr => ?_⟩⟩
    · show [V.ref a, V.int (((p.2 : Int) * ((2 ^ (k.D - p.1) : Nat) : Int)) + ((2 ^ (k.D - p.1) : Nat) : Int) - 1)] = [V.ref a, V.int ((hiN k p : Nat) : Int)]
      unfold hiN
      rw [← Int.natCast_mul]
      congr 3
      omega
    · have s3 := Same.new (o := .tup [.ref x, .ref y]) hr
      exact q _ r x y ((s1.trans s2).trans s3) upd_same ((hx.same s2).same s3) (hy.same s3)
/-! ### Box.room -/
def spRoom (K : PySem.W.Frag) : Sp := fun vs H Q _ => ∃ (a b : Addr) (k : Kd) (lo hi : List Nat) (p : Pf), vs = [.ref a, .ref b] ∧ BoxAt K H a k lo hi ∧ PfAt H b p ∧ p.1 ≤ k.D ∧ ∀ H', Same H H' → Q (.int (roomM k lo hi p : Nat)) H'
theorem sc_Box_room : FnScope ["self", "prefix", "lows", "highs", "found", "low", "high", "first", "last"] ["self", "prefix"] d_Box_room.scope := ⟨rfl, rfl, rfl, by decide +kernel, rfl, by decide +kernel, by decide +kernel⟩
theorem ok_Box_room  (T : Tx K mg) : Ok P w K mg base 4 d_Box_room ["self", "prefix"] (spRoom K) := by
  refine T.at_Box_room.ok sc_Box_room (fun vs H Q E h => ?_) (fun _ _ _ _ _ _ us hl => match us, hl with | [_, _], _ => rfl) (fun cdv A outer s H vs Q E hr h => ?_)
  · obtain ⟨_, _, _, _, _, _, rfl, _⟩ := h; rfl
  · obtain ⟨a, b, k, lo, hi, p, rfl, B, hp, hl, q⟩ := h
    obtain ⟨dx, sp, al, ah, hB, hS, hal, hah, plo, phi⟩ := id B
    obtain ⟨dx1, hS1⟩ := hS.2
    have kl := kinds_le hS.1
    refine ⟨_, pss_cons (ps_asg (pe_mc (pe_fld (pv 0) rfl) (ok_Space_cell T) hr (by decide) T.c_Space T.t_Space_cell (pa_cons (pv 1) pa_nil)) (pg_tup rfl (pgs_cons (pg_name (i := 2) sc_Box_room.nd rfl (Or.inl rfl)) (pgs_cons (pg_name (i := 3) sc_Box_room.nd rfl (Or.inl rfl)) pgs_nil)))) (pss_cons (ps_set (i := 4) sc_Box_room.nd rfl (Or.inl rfl) pe_int) (pss_cons (ps_for PassesOwn.never rfl (pi_zipQ rfl T.f_zip (pa_cons (pe_fld (pv 0) rfl) (pa_cons (pe_fld (pv 0) rfl) (pa_cons (pv 2) (pa_cons (pv 3) pa_nil))))) (pg_tup rfl (pgs_cons (pg_name (i := 5) sc_Box_room.nd rfl (Or.inl rfl)) (pgs_cons (pg_name (i := 6) sc_Box_room.nd rfl (Or.inl rfl)) (pgs_cons (pg_name (i := 7) sc_Box_room.nd rfl (Or.inl rfl)) (pgs_cons (pg_name (i := 8) sc_Box_room.nd rfl (Or.inl rfl)) pgs_nil))))) (pss_one (ps_set (i := 4) sc_Box_room.nd rfl (Or.inl rfl) (pe_op op_mul (pv 4) (pe_callB (call_max2 rfl) rfl T.f_max (by decide +kernel) (pa_cons pe_int (pa_cons (pe_op op_add (pe_op op_sub (pe_callB (call_min2 rfl) rfl T.f_min (by decide +kernel) (pa_cons (pv 6) (pa_cons (pv 8) pa_nil))) (pe_callB (call_max2 rfl) rfl T.f_max (by decide +kernel) (pa_cons (pv 5) (pa_cons (pv 7) pa_nil)))) pe_int) pa_nil))))))) (pss_one (ps_ret (pv 4))))), ?_⟩
    refine ⟨_, rfl, _, _, _, _, _, rfl, hB, T.c_Box, T.n_Box_space, lBox_space, _, _, _, rfl, hS1, (by kernel_rfl), _, rfl, sp, b, k, p, rfl, hS, hp, hl, fun H1 r x y s1 hr1 hx hy => ⟨r, _, rfl, SqT.of hr1, rfl, _, _, rfl, _, _, rfl, rfl, ?_⟩⟩
    have hB1 := s1 _ _ hB
    refine ⟨_, rfl, _, _, _, _, _, rfl, hB1, T.c_Box, T.n_Box_lows, lBox_lows, _, rfl, _, _, _, _, _, rfl, hB1, T.c_Box, T.n_Box_highs, lBox_highs, _, rfl, _, rfl, al, ah, x, y, _, _, _, _, rfl, (hal.same s1).sq, (hah.same s1).sq, hx.sq, hy.sq, ?_, ?_, ?_, ?_⟩
    · rw [List.length_map, List.length_map, plo.1, phi.1]
    · rw [List.length_map, List.length_map, plo.1]; exact ptL_len _ _ _
    · rw [List.length_map, List.length_map, plo.1]; exact ptL_len _ _ _
    have hn : (lo.map nV).length = k.1 := by rw [List.length_map, plo.1]
    refine for_it walk_zq (fun i σ H2 => Same H1 H2 ∧ ∃ u1 u2 u3 u4, σ = [some (.ref a), some (.ref b), some (.ref x), some (.ref y), some (.int ((rmN lo hi (ptOf k (loN k p)) (ptOf k (hiN k p)) i : Nat) : Int)), u1, u2, u3, u4]) ⟨Same.refl _, none, none, none, none, rfl⟩ ?_ ?_ ?_
    · rintro i σ H2 _ ⟨s2, _⟩
      exact ⟨((hal.same s1).same s2).sq, ((hah.same s1).same s2).sq, (hx.same s2).sq, (hy.same s2).sq⟩
    · rintro i v σ H2 H3 hi1 ⟨s2, u1, u2, u3, u4, rfl⟩ ⟨t, y1, y2, y3, y4, rfl, ht, rfl, g1, g2, g3, g4⟩
      rw [hn] at hi1
      have f1 : lo.length = k.1 := plo.1
      have f2 : hi.length = k.1 := phi.1
      have f3 : (ptOf k (loN k p)).length = k.1 := ptL_len _ _ _
      have f4 : (ptOf k (hiN k p)).length = k.1 := ptL_len _ _ _
      rw [getD_map (by omega)] at g1 g2 g3 g4
      cases g1; cases g2; cases g3; cases g4
      have h8 : hi.getD i 0 < 8 := by
        have e : hi.getD i 0 = hi[i]'(by omega) := by rw [List.getD_eq_getElem?_getD]; simp [show i < hi.length by omega]
        rw [e]
        exact phi.lt8 hS.1 _ (List.getElem_mem _)
      refine ⟨t, _, rfl, SqT.of upd_same, rfl, _, _, rfl, _, _, rfl, _, _, rfl, _, _, rfl, rfl, ?_⟩
      have fin : ∀ c1 c2 c3 c4 : Nat, (if (if (c4 : Int) < c2 then (c4 : Int) else c2) - (if (c3 : Int) > c1 then (c3 : Int) else c1) + 1 > 0 then (if (c4 : Int) < c2 then (c4 : Int) else c2) - (if (c3 : Int) > c1 then (c3 : Int) else c1) + 1 else (0 : Int)) = ((min c2 c4 + 1 - max c1 c3 : Nat) : Int) := fun c1 c2 c3 c4 => by
        split <;> split <;> split <;> omega
      have fin2 := fin (lo.getD i 0) (hi.getD i 0) ((ptOf k (loN k p)).getD i 0) ((ptOf k (hiN k p)).getD i 0)
      refine ⟨_, rfl, _, rfl, _, rfl, _, _, rfl, _, rfl, _, rfl, _, _, rfl, _, _, rfl, rfl, _, _, rfl, rfl, _, _, rfl, _, _, rfl, rfl, .inr (by rw [fin2]; omega), ?_⟩
      refine ⟨s2.trans (Same.new ht), some (nV (lo.getD i 0)), some (nV (hi.getD i 0)), some (nV ((ptOf k (loN k p)).getD i 0)), some (nV ((ptOf k (hiN k p)).getD i 0)), ?_⟩
      exact congrArg (fun z => [some (V.ref a), some (.ref b), some (.ref x), some (.ref y), some (V.int z), some (nV (lo.getD i 0)), some (nV (hi.getD i 0)), some (nV ((ptOf k (loN k p)).getD i 0)), some (nV ((ptOf k (hiN k p)).getD i 0))])
        ((congrArg (fun z => ((rmN lo hi (ptOf k (loN k p)) (ptOf k (hiN k p)) i : Nat) : Int) * z) fin2).trans (Int.natCast_mul _ _).symm)
    · rintro σ H2 ⟨s2, u1, u2, u3, u4, rfl⟩
      rw [hn]
      exact ⟨_, rfl, q _ (s1.trans s2)⟩
/-! ### Space.is_point, check_point -/
def spIsPoint (K : PySem.W.Frag) : Sp := fun vs H Q _ => ∃ (a b : Addr) (k : Kd) (pt : List Nat), vs = [.ref a, .ref b] ∧ SpaceAt K H a k ∧ TupN H b pt ∧ PtOk k pt ∧ ∀ H', Same H H' → Q (.bl true) H'
theorem sc_Space_is_point : FnScope ["self", "thing", "number"] ["self", "thing"] d_Space_is_point.scope := ⟨rfl, rfl, rfl, by decide +kernel, rfl, by decide +kernel, by decide +kernel⟩
theorem ok_Space_is_point  (T : Tx K mg) : Ok P w K mg base 2 d_Space_is_point ["self", "thing"] (spIsPoint K) := by
  refine T.at_Space_is_point.ok sc_Space_is_point (fun vs H Q E h => ?_) (fun _ _ _ _ _ _ us hl => match us, hl with | [_, _], _ => rfl) (fun cdv A outer s H vs Q E hr h => ?_)
  · obtain ⟨_, _, _, _, rfl, _⟩ := h; rfl
  · obtain ⟨a, b, k, pt, rfl, hS, hp, ok, q⟩ := h
    obtain ⟨dx, hS1⟩ := hS.2
    refine ⟨_, pss_cons (ps_if (PW.pt (pw_or (pt_not (pt_val (pe_callB call_isi rfl T.f_isinstance (by decide +kernel) (pa_cons (pv 1) (pa_cons (pe_bltn rfl T.f_tuple (v := .ty "tuple") (by decide +kernel) rfl) pa_nil))))) (pw_or1 (pt_cmpR op_ne (pe_callB call_len_seq rfl T.f_len (by decide +kernel) (pa_cons (pv 1) pa_nil)) (pe_fld (pv 0) rfl) (nomark _))))) (pss_one (ps_ret pe_bl)) (pss_nil)) (pss_one (ps_ret (pe_callB (cr_all rfl) rfl T.f_all (by decide +kernel) (pa_cons (pe_lc (own := [("number", 2)]) rfl sc_Space_is_point.nd (pi_tup (pv 1)) (blkOk_by (own := [("number", 2)]) (N := ["self", "thing", "number"]) (sc := d_Space_is_point.scope) (by decide +kernel)) (fun _ _ _ _ _ => pg_name (i := 2) sc_Space_is_point.nd rfl (Or.inl rfl)) (fun _ _ _ _ _ => pts_nil) (fun _ _ _ _ _ => pe_fc (ok_is_whole T) hr (by decide) rfl T.g_is_whole (pa_cons (pv 2) (pa_cons pe_int (pa_cons (pe_op op_sub (pe_fldK (K0 := K) rfl (pv 0) rfl) pe_int) pa_nil))))) pa_nil)))), ?_⟩
    refine ⟨_, rfl, _, _, _, _, true, rfl, .ty "tuple", .base (.tup hp), kit_ty (by decide +kernel), true, rfl, iteF ?_⟩
    refine ⟨_, rfl, b, pt.map nV, rfl, .inr hp.sq, _, rfl, _, _, _, _, _, rfl, hS1, T.c_Space, T.n_Space_dimensions, lSpace_dimensions, rfl, _, rfl, ?_⟩
    have hl : (pt.map nV).length = k.1 := by rw [List.length_map]; exact ok.1
    rw [hl]
    refine iteNS rfl ?_
    refine ⟨_, rfl, b, rfl, ⟨_, hp.sq⟩, fun D hD => ?_⟩
    refine lc_tup (xs := pt.map nV) (fun i H2 => Same H H2 ∧ H2 D = some (.lst ((List.replicate i true).map V.bl))) ⟨Same.new hD, upd_same⟩ (fun i H2 _ ⟨s2, _⟩ => (hp.same s2).sq) ?_ ?_
    · rintro i x H2 hx ⟨s2, h2⟩
      obtain ⟨y, hy, rfl⟩ : ∃ y, y ∈ pt ∧ x = nV y := by
        rw [List.getElem?_map] at hx
        cases e : pt[i]? with
        | none => rw [e] at hx; cases hx
        | some y =>
          rw [e] at hx
          exact ⟨y, List.mem_of_getElem? e, (Option.some.inj hx).symm⟩
      have ly := ok.2 y hy
      refine ⟨rfl, _, rfl, _, rfl, _, _, _, _, _, rfl, (s2 _ _ hS1), T.c_Space, T.n_Space_side, lSpace_side, _, _, rfl, rfl, (y : Int), 0, ((2 ^ k.2 : Nat) : Int) - 1, rfl, _, h2, ?_, ?_, upd_same.trans (congrArg (fun l => some (HO.lst l)) ?_)⟩
      · have := (List.getElem?_eq_some_iff.mp hx).1
        have l8 := kinds_le hS.1
        rw [List.length_map, List.length_replicate]
        have h1000 : (1000 : Nat) ≤ sizeLine := by decide
        rw [List.length_map] at this
        have := ok.1
        omega
      · intro b o e
        rw [upd_ne (ne_of_none e hD)]
        exact s2 b o e
      · rw [decide_eq_true (show (0 : Int) ≤ (y : Int) by omega), decide_eq_true (show (y : Int) ≤ ((2 ^ k.2 : Nat) : Int) - 1 by omega), List.replicate_succ', List.map_append]
        rfl
    · rintro H2 ⟨s2, h2⟩
      rw [List.length_map] at h2
      refine ⟨D, List.replicate pt.length true, rfl, SqL.of h2, ?_⟩
      have e : (List.replicate pt.length true).all id = true := by simp
      rw [e]
      exact q _ s2
def spCheckPoint (K : PySem.W.Frag) : Sp := fun vs H Q _ => ∃ (a b : Addr) (k : Kd) (pt : List Nat), vs = [.ref a, .ref b] ∧ SpaceAt K H a k ∧ TupN H b pt ∧ PtOk k pt ∧ ∀ H', Same H H' → Q .non H'
theorem sc_Space_check_point : FnScope ["self", "thing"] ["self", "thing"] d_Space_check_point.scope := ⟨rfl, rfl, rfl, by decide +kernel, rfl, by decide +kernel, by decide +kernel⟩
theorem ok_Space_check_point  (T : Tx K mg) : Ok P w K mg base 3 d_Space_check_point ["self", "thing"] (spCheckPoint K) := by
  refine T.at_Space_check_point.ok sc_Space_check_point (fun vs H Q E h => ?_) (fun _ _ _ _ _ _ us hl => match us, hl with | [_, _], _ => rfl) (fun cdv A outer s H vs Q E hr h => ?_)
  · obtain ⟨_, _, _, _, rfl, _⟩ := h; rfl
  · obtain ⟨a, b, k, pt, rfl, hS, hp, ok, q⟩ := h
    obtain ⟨dx, hS1⟩ := hS.2
    refine ⟨_, pss_one (ps_if (pt_not (pt_val (pe_mc (pv 0) (ok_Space_is_point T) hr (by decide) T.c_Space T.t_Space_is_point (pa_cons (pv 1) pa_nil)))) (pss_never) (pss_nil)), ?_⟩
    exact ⟨_, rfl, _, _, _, rfl, hS1, (by kernel_rfl), _, rfl, a, b, k, pt, rfl, hS, hp, ok, fun H' s' => ⟨true, rfl, iteF (q H' s')⟩⟩
/-! ### Space.woven -/
def spWoven (K : PySem.W.Frag) : Sp := fun vs H Q _ => ∃ (a b : Addr) (k : Kd) (pt : List Nat), vs = [.ref a, .ref b] ∧ SpaceAt K H a k ∧ TupN H b pt ∧ PtOk k pt ∧ ∀ H', Same H H' → Q (.int (wv k pt : Nat)) H'
theorem sc_Space_woven : FnScope ["self", "point", "found", "half", "turn", "number"] ["self", "point"] d_Space_woven.scope := ⟨rfl, rfl, rfl, by decide +kernel, rfl, by decide +kernel, by decide +kernel⟩
theorem ok_Space_woven  (T : Tx K mg) : Ok P w K mg base 4 d_Space_woven ["self", "point"] (spWoven K) := by
  refine T.at_Space_woven.ok sc_Space_woven (fun vs H Q E h => ?_) (fun _ _ _ _ _ _ us hl => match us, hl with | [_, _], _ => rfl) (fun cdv A outer s H vs Q E hr h => ?_)
  · obtain ⟨_, _, _, _, rfl, _⟩ := h; rfl
  · obtain ⟨a, b, k, pt, rfl, hS, hp, ok, q⟩ := h
    obtain ⟨dx, hS1⟩ := hS.2
    have kl := kinds_le hS.1
    refine ⟨_, pss_cons (ps_expr (pe_mc (pv 0) (ok_Space_check_point T) hr (by decide) T.c_Space T.t_Space_check_point (pa_cons (pv 1) pa_nil))) (pss_cons (ps_par (i := 2) (j := 3) (by rfl) sc_Space_woven.nd rfl rfl (by decide) rfl rfl (pa_cons pe_int (pa_cons (pe_op op_fdiv (pe_fld (pv 0) rfl) pe_int) pa_nil)) (by rfl)) (pss_cons (ps_for PassesOwn.never rfl (pi_range1 rfl T.f_range (pa_cons (pe_fld (pv 0) rfl) pa_nil)) (pg_name (i := 4) sc_Space_woven.nd rfl (Or.inl rfl)) (pss_cons (ps_for PassesOwn.never rfl (pi_tup (pv 1)) (pg_name (i := 5) sc_Space_woven.nd rfl (Or.inl rfl)) (pss_one (ps_set (i := 2) sc_Space_woven.nd rfl (Or.inl rfl) (pe_op op_add (pe_op op_mul (pv 2) pe_int) (pe_op op_mod (pe_callTy call_int1 rfl T.f_int (by decide +kernel) (pa_cons (pe_op op_fdivN (pv 5) (pv 3)) pa_nil)) pe_int))))) (pss_one (ps_set (i := 3) sc_Space_woven.nd rfl (Or.inl rfl) (pe_op op_fdiv (pv 3) pe_int))))) (pss_one (ps_ret (pv 2))))), ?_⟩
    refine ⟨_, rfl, _, _, _, rfl, hS1, (by kernel_rfl), _, rfl, a, b, k, pt, rfl, hS, hp, ok, fun H1 s1 => ?_⟩
    refine ⟨_, rfl, _, _, _, _, _, rfl, (s1 _ _ hS1), T.c_Space, T.n_Space_side, lSpace_side, _, _, rfl, rfl, ⟨by decide, by decide⟩, _, _, rfl, ?_⟩
    refine ⟨_, rfl, _, _, _, _, _, rfl, (s1 _ _ hS1), T.c_Space, T.n_Space_bits, lSpace_bits, (k.2 : Int), rfl, by omega, by omega, ?_⟩
    refine for_range (lo := 0) (n := k.2) (fun i σ H2 => H2 = H1 ∧ ∃ u v, σ = [some (.ref a), some (.ref b), some (nV (wvL k pt i).1), some (nV (wvL k pt i).2), u, v]) ⟨rfl, none, none, ?_⟩ ?_ ?_
    · show [_, _, _, some (V.int (((2 ^ k.2 : Nat) : Int) / 2)), _, _] = _
      rw [show ((2 ^ k.2 : Nat) : Int) / 2 = ((2 ^ k.2 / 2 : Nat) : Int) by omega]
      rfl
    · rintro i σ H2 hi ⟨rfl, u, v, rfl⟩
      have hh := wvL_half k pt i hi
      have hpos : 1 ≤ (wvL k pt i).2 ∧ (wvL k pt i).2 ≤ 4 := by
        rw [hh]
        have h : k.2 - 1 - i = 0 ∨ k.2 - 1 - i = 1 ∨ k.2 - 1 - i = 2 := by omega
        rcases h with e | e | e <;> rw [e] <;> decide
      refine ⟨_, rfl, b, rfl, ⟨_, (hp.same s1).sq⟩, ?_⟩
      refine for_tup (xs := pt.map nV) (fun j σ H3 => H3 = H2 ∧ ∃ v, σ = [some (.ref a), some (.ref b), some (nV (wvRow (wvL k pt i).2 (pt.take j) (wvL k pt i).1)), some (nV (wvL k pt i).2), some (.int (0 + i)), v]) ⟨rfl, v, rfl⟩ (fun _ _ H3 _ ⟨e, _⟩ => by rw [e]; exact (hp.same s1).sq) ?_ ?_
      · rintro j x σ H3 hx ⟨rfl, v, rfl⟩
        obtain ⟨y, hy, rfl⟩ : ∃ y, pt[j]? = some y ∧ x = nV y := by
          rw [List.getElem?_map] at hx
          cases e : pt[j]? with
          | none => rw [e] at hx; cases hx
          | some y =>
            rw [e] at hx
            exact ⟨y, rfl, (Option.some.inj hx).symm⟩
        refine ⟨_, rfl, _, _, rfl, rfl, .inr ⟨by decide, by decide⟩, _, rfl, _, rfl, _, _, rfl, rfl, ⟨by omega, by omega⟩, .inl ⟨_, rfl, _, _, rfl, rfl, (by show (0 : Int) < 2; decide), _, _, rfl, rfl, rfl, some (nV y), ?_⟩⟩
        have e : pt.take (j + 1) = pt.take j ++ [y] := by
          rw [List.take_succ, hy]
          rfl
        show [_, _, some (V.int (((wvRow (wvL k pt i).2 (pt.take j) (wvL k pt i).1 : Nat) : Int) * 2 + ((y : Int).fdiv ((wvL k pt i).2 : Int)) % 2)), _, _, _] = _
        rw [fdivN, e]
        unfold wvRow
        rw [List.foldl_append]
        rfl
      · rintro σ H3 ⟨rfl, v, rfl⟩
        rw [List.length_map, List.take_length]
        refine ⟨_, rfl, _, _, rfl, rfl, ⟨by decide, by decide⟩, rfl, some (.int (0 + i)), v, ?_⟩
        show [_, _, _, some (V.int (((wvL k pt i).2 : Int) / 2)), _, _] = _
        rw [show ((wvL k pt i).2 : Int) / 2 = (((wvL k pt i).2 / 2 : Nat) : Int) by omega]
        rfl
    · rintro σ H2 ⟨rfl, u, v, rfl⟩
      exact ⟨_, rfl, q _ s1⟩
end
end Fc

set_option Elab.async false
set_option autoImplicit false
set_option linter.all false
set_option maxRecDepth 100000
/-! Walks: the makers; counts. -/
namespace Fc
open PySem PySem.Spec PyProof.Rows L2
/-- all but p as it was -/
def SameX (p : Addr) (H H' : Hp) : Prop := ∀ b o, b ≠ p → H b = some o → H' b = some o
theorem SameX.made {H H' : Hp} {x dx : Addr} {o u : HO} (s : SameX x (upd (upd H dx u) x o) H') (hx : H x = none) (hdx : H dx = none) : Same H H' := fun b z e =>
  s b z (ne_of_none e hx) (by rw [upd_ne (ne_of_none e hx), upd_ne (ne_of_none e hdx)]; exact e)
theorem SameX.of_same {p : Addr} {H H' : Hp} (s : Same H H') : SameX p H H' := fun b o _ e => s b o e
theorem SameX.trans {p : Addr} {H H1 H2 : Hp} (a : SameX p H H1) (b : SameX p H1 H2) : SameX p H H2 := fun c o n e => b c o n (a c o n e)
theorem SameX.upd {p : Addr} {H : Hp} {o : HO} : SameX p H (L2.upd H p o) := fun b z n e => by rw [upd_ne n]; exact e
theorem valV_no {α : Type} [DecidableEq α] {kvs : List (α × V)} {k : α} (h : k ∉ kvs.map (·.1)) : valV kvs k = none := by
  cases e : valV kvs k with
  | none => rfl
  | some v => exact absurd (valV_in e) h
theorem small8 {n : Nat} (h : n ≤ 20) : n < sizeLine := by
  have : (1000 : Nat) < sizeLine := by decide
  omega
/-- points by their addresses -/
def PtsAt (H : Hp) (a : Addr) (pts : List (List Nat)) : Prop := ∃ as : List Addr, H a = some (.tup (as.map V.ref)) ∧ Paired (TupN H) as pts
theorem paired_same {H H' : Hp} (s : Same H H') : ∀ {as : List Addr} {pts : List (List Nat)}, Paired (TupN H) as pts → Paired (TupN H') as pts
  | _, _, .nil => .nil
  | _, _, .cons h t => .cons (h.same s) (paired_same s t)
theorem PtsAt.same {H H' : Hp} {a : Addr} {pts : List (List Nat)} (s : Same H H') : PtsAt H a pts → PtsAt H' a pts := fun ⟨as, h, p⟩ => ⟨as, s _ _ h, paired_same s p⟩
theorem paired_get {α β : Type} {R : α → β → Prop} : ∀ {as : List α} {bs : List β} {i : Nat} {a : α}, Paired R as bs → as[i]? = some a → ∃ b, bs[i]? = some b ∧ R a b
  | _ :: _, _ :: _, 0, a, .cons h _, e => ⟨_, rfl, by cases e; exact h⟩
  | _ :: as, _ :: bs, i + 1, a, .cons _ t, e => paired_get (as := as) (bs := bs) (i := i) t e
theorem paired_len {α β : Type} {R : α → β → Prop} : ∀ {as : List α} {bs : List β}, Paired R as bs → as.length = bs.length
  | _, _, .nil => rfl
  | _, _, .cons _ t => congrArg Nat.succ (paired_len t)
/-- the members of a cloud, in order -/
def rowOf (k : Kd) (f : Nat → Bool) : List Nat := (List.range (2 ^ k.D)).filter f
def memF (k : Kd) (pts : List (List Nat)) : Nat → Bool := fun a => decide (a ∈ pts.map (wv k))
theorem filter_range_cl (f : Nat → Bool) : ∀ n, ((List.range n).filter f).length = cl f n
  | 0 => rfl
  | n + 1 => by
    rw [List.range_succ, List.filter_append, List.length_append, filter_range_cl f n]
    show _ = cl f n + b1 (f n)
    cases e : f n <;> simp [b1, e]
/-- the place of a number in a row: how many are below -/
theorem place_cl {f : Nat → Bool} {N n c : Nat} (hn : n ≤ N) (h1 : ∀ j y, j < c → ((List.range N).filter f)[j]? = some y → y < n) (h2 : ∀ j y, c ≤ j → ((List.range N).filter f)[j]? = some y → n ≤ y) (hc : c ≤ ((List.range N).filter f).length) : c = cl f n := by
  have e : List.range N = List.range n ++ List.range' n (N - n) := by
    have e1 : N = n + (N - n) := by omega
    have e2 : List.range N = List.range' 0 N := List.range_eq_range'
    have e3 : List.range n = List.range' 0 n := List.range_eq_range'
    rw [e2, e3]
    have := List.range'_append (s := 0) (m := n) (n := N - n) (step := 1)
    simp only [Nat.one_mul, Nat.zero_add] at this
    rw [this, ← e1]
  rw [e, List.filter_append] at h1 h2 hc
  rw [← filter_range_cl]
  by_cases l : c < ((List.range n).filter f).length
  · exfalso
    have z := h2 c _ (Nat.le_refl _) (by rw [List.getElem?_append_left l]; exact List.getElem?_eq_getElem l)
    have m : ((List.range n).filter f)[c] ∈ List.range n := (List.mem_filter.mp (List.getElem_mem l)).1
    rw [List.mem_range] at m
    omega
  · by_cases g : ((List.range n).filter f).length < c
    · exfalso
      have lb : ((List.range n).filter f).length < ((List.range n).filter f ++ (List.range' n (N - n)).filter f).length := by omega
      have hy := List.getElem?_eq_getElem lb
      have z := h1 _ _ g hy
      rw [List.getElem?_append_right (Nat.le_refl _)] at hy
      have m := (List.mem_filter.mp (List.mem_of_getElem? hy)).1
      rw [List.mem_range'] at m
      obtain ⟨i, _, ei⟩ := m
      omega
    · omega
theorem rowOf_sorted (k : Kd) (f : Nat → Bool) : ((rowOf k f).map fun x : Nat => (x : Int)).Pairwise (· < ·) := by
  refine List.Pairwise.map (R := fun a b : Nat => a < b) _ (fun a b r => by omega) ?_
  exact List.Pairwise.sublist List.filter_sublist List.pairwise_lt_range
theorem rowOf_len {k : Kd} (hk : k ∈ kinds) (f : Nat → Bool) : (rowOf k f).length ≤ 8 := by
  have h := pow_le8 hk 0
  rw [Nat.sub_zero] at h
  refine Nat.le_trans (List.length_filter_le _ _) ?_
  rw [List.length_range]
  exact h.2
/-- sorted, all once: the row -/
theorem sorted_row {k : Kd} {f : Nat → Bool} {ys : List Int} {ns : List Nat} (p : ys.Perm (ns.map fun x : Nat => (x : Int))) (s : ys.Pairwise (· ≤ ·)) (nd : ns.Nodup) (hm : ∀ a, a ∈ ns ↔ a < 2 ^ k.D ∧ f a = true) : ys = (rowOf k f).map fun x : Nat => (x : Int) := by
  have pr : ns.Perm (rowOf k f) := by
    refine (List.perm_ext_iff_of_nodup nd (List.Pairwise.filter _ List.nodup_range)).mpr fun a => ?_
    rw [hm, List.mem_filter, List.mem_range]
  refine List.Perm.eq_of_pairwise (le := fun a b : Int => a ≤ b) (fun a b _ _ h1 h2 => Int.le_antisymm h1 h2) s ?_ (p.trans (pr.map _))
  exact (rowOf_sorted k f).imp fun h => Int.le_of_lt h
def CloudAt (K : PySem.W.Frag) (H : Hp) (a : Addr) (k : Kd) (f : Nat → Bool) : Prop :=
  ∃ dx sp ro, H a = some (.ins (He.ga K "Cloud") dx (flCloud sp ro)) ∧ SpaceAt K H sp k ∧ TupN H ro (rowOf k f)
theorem CloudAt.same {K : PySem.W.Frag} {H H' : Hp} {a : Addr} {k : Kd} {f : Nat → Bool} (s : Same H H') : CloudAt K H a k f → CloudAt K H' a k f :=
  fun ⟨dx, sp, ro, h1, h2, h3⟩ => ⟨dx, sp, ro, s _ _ h1, h2.same s, h3.same s⟩
section
variable {P : Program} {w : World} {K : PySem.W.Frag} {mg : Str → Option Value} {base : Heap}
/-! ### Cloud.count -/
def spCount (K : PySem.W.Frag) : Sp := fun vs H Q _ => ∃ (a b : Addr) (k : Kd) (f : Nat → Bool) (p : Pf), vs = [.ref a, .ref b] ∧ CloudAt K H a k f ∧ PfAt H b p ∧ Valid k p ∧ Q (.int (cR f (k.D - p.1) p.2 : Nat)) H
theorem sc_Cloud_count : FnScope ["self", "prefix", "size"] ["self", "prefix"] d_Cloud_count.scope := ⟨rfl, rfl, rfl, by decide +kernel, rfl, by decide +kernel, by decide +kernel⟩
theorem ok_Cloud_count  (T : Tx K mg) : Ok P w K mg base 3 d_Cloud_count ["self", "prefix"] (spCount K) := by
  refine T.at_Cloud_count.ok sc_Cloud_count (fun vs H Q E h => ?_) (fun _ _ _ _ _ _ us hl => match us, hl with | [_, _], _ => rfl) (fun cdv A outer s H vs Q E hr h => ?_)
  · obtain ⟨_, _, _, _, _, rfl, _⟩ := h; rfl
  · obtain ⟨a, b, k, f, p, rfl, ⟨dx, sp, ro, hC, hS, hro⟩, hp, hv, q⟩ := h
    obtain ⟨dx1, hS1⟩ := hS.2
    have p8 := pow_le8 hS.1 p.1
    have kl := kinds_le hS.1
    have top : (p.2 + 1) * 2 ^ (k.D - p.1) ≤ 2 ^ k.D := by
      have e : k.D = p.1 + (k.D - p.1) := by have := hv.1; omega
      have e2 : 2 ^ k.D = 2 ^ p.1 * 2 ^ (k.D - p.1) := by rw [← Nat.pow_add, ← e]
      rw [e2]
      exact Nat.mul_le_mul_right _ hv.2
    rw [Nat.add_mul, Nat.one_mul] at top
    refine ⟨_, pss_cons (ps_set (i := 2) sc_Cloud_count.nd rfl (Or.inl rfl) (pe_mc (pe_fld (pv 0) rfl) (ok_Space_size T) hr (by decide) T.c_Space T.t_Space_size (pa_cons (pv 1) pa_nil))) (pss_one (ps_ret (pe_op op_sub (pe_fc (ok_place_in T) hr (by decide) rfl T.g_place_in (pa_cons (pe_fld (pv 0) rfl) (pa_cons (pe_op op_add (pe_op op_mul (pe_ix ix_tup (pv 1) pe_int (fun _ _ => rfl)) (pv 2)) (pv 2)) pa_nil))) (pe_fc (ok_place_in T) hr (by decide) rfl T.g_place_in (pa_cons (pe_fld (pv 0) rfl) (pa_cons (pe_op op_mul (pe_ix ix_tup (pv 1) pe_int (fun _ _ => rfl)) (pv 2)) pa_nil)))))), ?_⟩
    refine ⟨_, rfl, _, _, _, _, _, rfl, hC, T.c_Cloud, T.n_Cloud_space, lCloud_space, _, _, _, rfl, hS1, (by kernel_rfl), _, rfl, sp, b, k, p, rfl, hS, hp, hv.1, ?_⟩
    have hI : TupI H ro ((rowOf k f).map fun x : Nat => (x : Int)) := by
      show H ro = some (.tup (((rowOf k f).map _).map V.int))
      rw [List.map_map]
      exact hro
    have len : ((rowOf k f).map fun x : Nat => (x : Int)).length ≤ 1000 := by
      have := rowOf_len hS.1 f
      rw [List.length_map]
      omega
    have pl : ∀ (m c : Nat), m ≤ 2 ^ k.D → c ≤ ((rowOf k f).map fun x : Nat => (x : Int)).length → (∀ j y, j < c → ((rowOf k f).map fun x : Nat => (x : Int))[j]? = some y → y < (m : Int)) → (∀ j y, c ≤ j → ((rowOf k f).map fun x : Nat => (x : Int))[j]? = some y → (m : Int) ≤ y) → c = cl f m := by
      intro m c hm hc h1 h2
      rw [List.length_map] at hc
      refine place_cl hm (fun j y hj hy => ?_) (fun j y hj hy => ?_) hc
      · have := h1 j (y : Int) hj (by rw [List.getElem?_map]; exact congrArg (Option.map _) hy)
        omega
      · have := h2 j (y : Int) hj (by rw [List.getElem?_map]; exact congrArg (Option.map _) hy)
        omega
    refine ⟨_, rfl, _, _, _, _, _, rfl, hC, T.c_Cloud, T.n_Cloud_row, lCloud_row, _, rfl, _, _, 1, _, rfl, rfl, hp.sq, atI_nat (j := 1) rfl, _, rfl, _, _, rfl, rfl, .inr ⟨by omega, by omega⟩, _, rfl, _, _, rfl, rfl, ro, _, _, rfl, hI, rowOf_sorted k f, len, fun c1 a1 a2 a3 => ?_⟩
    have e1 : (p.2 : Int) * ((2 ^ (k.D - p.1) : Nat) : Int) + ((2 ^ (k.D - p.1) : Nat) : Int) = ((p.2 * 2 ^ (k.D - p.1) + 2 ^ (k.D - p.1) : Nat) : Int) := by
      rw [Int.natCast_add, Int.natCast_mul]
    have c1e := pl _ c1 top a1 (fun j y h1 h2 => by rw [← e1]; exact a2 j y h1 h2) (fun j y h1 h2 => by rw [← e1]; exact a3 j y h1 h2)
    refine ⟨_, rfl, _, _, _, _, _, rfl, hC, T.c_Cloud, T.n_Cloud_row, lCloud_row, _, rfl, _, _, 1, _, rfl, rfl, hp.sq, atI_nat (j := 1) rfl, _, rfl, _, _, rfl, rfl, .inr ⟨by omega, by omega⟩, ro, _, _, rfl, hI, rowOf_sorted k f, len, fun c2 b1 b2 b3 => ?_⟩
    have e2 : (p.2 : Int) * ((2 ^ (k.D - p.1) : Nat) : Int) = ((p.2 * 2 ^ (k.D - p.1) : Nat) : Int) := by rw [Int.natCast_mul]
    have c2e := pl (p.2 * 2 ^ (k.D - p.1)) c2 (by omega) b1 (fun j y h1 h2 => by rw [← e2]; exact b2 j y h1 h2) (fun j y h1 h2 => by rw [← e2]; exact b3 j y h1 h2)
    refine ⟨_, _, rfl, rfl, ?_⟩
    have z := cl_cR f (k.D - p.1) p.2
    show Q (V.int ((c1 : Int) - (c2 : Int))) H
    rw [show (c1 : Int) - (c2 : Int) = ((cR f (k.D - p.1) p.2 : Nat) : Int) by omega]
    exact q
/-! ### makers -/
def spSpaceInit (K : PySem.W.Frag) : Sp := fun vs H Q _ => ∃ (p dx : Addr) (k : Kd), vs = [.ref p, .int (k.1 : Nat), .int (k.2 : Nat)] ∧ k ∈ kinds ∧ H p = some (.ins (He.ga K "Space") dx []) ∧
  ∀ H', SameX p H H' → H' p = some (.ins (He.ga K "Space") dx (spF k)) → Q .non H'
theorem sc_Space_init : FnScope ["self", "dimensions", "bits"] ["self", "dimensions", "bits"] d_Space_init.scope := ⟨rfl, rfl, rfl, by decide +kernel, rfl, by decide +kernel, by decide +kernel⟩
theorem ok_Space_init  (T : Tx K mg) : Ok P w K mg base 2 d_Space_init ["self", "dimensions", "bits"] (spSpaceInit K) := by
  refine T.at_Space_init.ok sc_Space_init (fun vs H Q E h => ?_) (fun _ _ _ _ _ _ us hl => match us, hl with | [_, _, _], _ => rfl) (fun cdv A outer s H vs Q E hr h => ?_)
  · obtain ⟨_, _, _, rfl, _⟩ := h; rfl
  · obtain ⟨p, dx, k, rfl, hk, hp, q⟩ := h
    have kl := kinds_le hk
    obtain ⟨t3, e3⟩ := T.i_MOST_DIMENSIONS
    obtain ⟨t4, e4⟩ := T.i_MOST_BITS
    refine ⟨_, pss_cons (ps_if (pt_not (pt_val (pe_fc (ok_is_whole T) hr (by decide) rfl T.g_is_whole (pa_cons (pv 1) (pa_cons pe_int (pa_cons (pe_glob (v := .int 3) rfl e3 ⟨t3, rfl⟩) pa_nil)))))) (pss_never) (pss_nil)) (pss_cons (ps_if (pt_not (pt_val (pe_fc (ok_is_whole T) hr (by decide) rfl T.g_is_whole (pa_cons (pv 2) (pa_cons pe_int (pa_cons (pe_glob (v := .int 10) rfl e4 ⟨t4, rfl⟩) pa_nil)))))) (pss_never) (pss_nil)) (pss_cons (ps_fld (pv 0) (pv 1) rfl) (pss_cons (ps_fld (pv 0) (pv 2) rfl) (pss_cons (ps_fld (pv 0) (pe_op op_mul (pv 1) (pv 2)) rfl) (pss_one (ps_fld (pv 0) (pe_fc (ok_power T) hr (by decide) rfl T.g_power (pa_cons (pv 2) pa_nil)) rfl)))))), ?_⟩
    have d1 : (decide ((1 : Int) ≤ (k.1 : Int)) && decide ((k.1 : Int) ≤ 3)) = true := by rw [decide_eq_true (by omega), decide_eq_true (by omega)]; rfl
    have d2 : (decide ((1 : Int) ≤ (k.2 : Int)) && decide ((k.2 : Int) ≤ 10)) = true := by rw [decide_eq_true (by omega), decide_eq_true (by omega)]; rfl
    refine ⟨_, rfl, _, _, _, rfl, true, congrArg V.bl d1, ?_⟩
    refine iteF ⟨_, rfl, _, _, _, rfl, true, congrArg V.bl d2, ?_⟩
    refine iteF ⟨_, rfl, _, rfl, p, _, dx, [], rfl, hp, T.c_Space, T.n_Space_dimensions, (by decide), ?_⟩
    refine ⟨_, rfl, _, rfl, p, _, dx, _, rfl, upd_same, T.c_Space, T.n_Space_bits, (by rw [pSpace_dimensions]; show 1 < 1000; decide), ?_⟩
    refine ⟨_, rfl, _, rfl, _, _, rfl, rfl, .inl ⟨by omega, by omega⟩, _, rfl, p, _, dx, _, rfl, upd_same, T.c_Space, T.n_Space_depth, (by rw [pSpace_dimensions, pSpace_bits]; show 2 < 1000; decide), ?_⟩
    refine ⟨_, rfl, k.2, rfl, by omega, _, rfl, p, _, dx, _, rfl, upd_same, T.c_Space, T.n_Space_side, (by rw [pSpace_dimensions, pSpace_bits, pSpace_depth]; show 3 < 1000; decide), ?_⟩
    refine q _ (((SameX.upd.trans SameX.upd).trans SameX.upd).trans SameX.upd) (upd_same.trans (congrArg (fun l => some (HO.ins _ dx l)) ?_))
    rw [pSpace_dimensions, pSpace_bits, pSpace_depth, pSpace_side]
    show [_, _, (_, V.int ((k.1 : Int) * (k.2 : Int))), _] = [_, _, (_, V.int ((k.1 * k.2 : Nat) : Int)), _]
    rw [Int.natCast_mul]
def spRestInit (K : PySem.W.Frag) : Sp := fun vs H Q _ => ∃ (p dx pr inn : Addr) (cn : V), vs = [.ref p, .ref pr, cn, .ref inn] ∧ H p = some (.ins (He.ga K "Rest") dx []) ∧
  ∀ H', SameX p H H' → H' p = some (.ins (He.ga K "Rest") dx (flRest pr cn inn)) → Q .non H'
theorem sc_Rest_init : FnScope ["self", "prefix", "count", "inner"] ["self", "prefix", "count", "inner"] d_Rest_init.scope := ⟨rfl, rfl, rfl, by decide +kernel, rfl, by decide +kernel, by decide +kernel⟩
theorem ok_Rest_init  (T : Tx K mg) : Ok P w K mg base 1 d_Rest_init ["self", "prefix", "count", "inner"] (spRestInit K) := by
  refine T.at_Rest_init.ok sc_Rest_init (fun vs H Q E h => ?_) (fun _ _ _ _ _ _ us hl => match us, hl with | [_, _, _, _], _ => rfl) (fun cdv A outer s H vs Q E hr h => ?_)
  · obtain ⟨_, _, _, _, _, rfl, _⟩ := h; rfl
  · obtain ⟨p, dx, pr, inn, cn, rfl, hp, q⟩ := h
    refine ⟨_, pss_cons (ps_fld (pv 0) (pv 1) rfl) (pss_cons (ps_fld (pv 0) (pv 2) rfl) (pss_one (ps_fld (pv 0) (pv 3) rfl))), ?_⟩
    refine ⟨_, rfl, _, rfl, p, _, dx, [], rfl, hp, T.c_Rest, T.n_Rest_prefix, (by decide), ?_⟩
    refine ⟨_, rfl, _, rfl, p, _, dx, _, rfl, upd_same, T.c_Rest, T.n_Rest_count, (by rw [pRest_prefix]; show 1 < 1000; decide), ?_⟩
    refine ⟨_, rfl, _, rfl, p, _, dx, _, rfl, upd_same, T.c_Rest, T.n_Rest_inner, (by rw [pRest_prefix, pRest_count]; show 2 < 1000; decide), ?_⟩
    refine q _ ((SameX.upd.trans SameX.upd).trans SameX.upd) (upd_same.trans (congrArg (fun l => some (HO.ins _ dx l)) ?_))
    rw [pRest_prefix, pRest_count, pRest_inner]
    rfl
end
end Fc

set_option Elab.async false
set_option autoImplicit false
set_option linter.all false
set_option maxRecDepth 100000
/-! Walks: the makers of boxes and clouds. -/
namespace Fc
open PySem PySem.Spec PyProof.Rows L2
def BoxOk (k : Kd) (lo hi : List Nat) : Prop := PtOk k lo ∧ PtOk k hi ∧ ∀ i : Nat, i < k.1 → lo.getD i 0 ≤ hi.getD i 0
theorem walk_zipT {K : PySem.W.Frag} {a b : Addr} {xs ys : List V} (hl : ys.length = xs.length) : Walk (RZ.ItzT K a b) xs.length (fun H => SqT K H a xs ∧ SqT K H b ys) (YPair (fun i => xs[i]?) (fun i => ys[i]?)) :=
  ⟨fun i H hi q => ⟨xs, ys, xs[i], ys[i]'(by omega), q.1, q.2, by simp [hi], by simp [show i < ys.length by omega]⟩, fun H q => ⟨xs, ys, q.1, q.2, .inl (Nat.le_refl _)⟩,
    fun i H v H' _ q ⟨t, x, y, e1, e2, e3, e4, e5⟩ => ⟨t, x, y, e1, e2, e3, e4 xs q.1, e5 ys q.2⟩⟩
section
variable {P : Program} {w : World} {K : PySem.W.Frag} {mg : Str → Option Value} {base : Heap}
def spBoxInit (K : PySem.W.Frag) : Sp := fun vs H Q _ => ∃ (p dx sp al ah : Addr) (k : Kd) (lo hi : List Nat), vs = [.ref p, .ref sp, .ref al, .ref ah] ∧ SpaceAt K H sp k ∧ TupN H al lo ∧ TupN H ah hi ∧ BoxOk k lo hi ∧ H p = some (.ins (He.ga K "Box") dx []) ∧
  ∀ H', SameX p H H' → H' p = some (.ins (He.ga K "Box") dx (flBox sp al ah)) → Q .non H'
theorem sc_Box_init : FnScope ["self", "space", "lows", "highs", "point", "low", "high"] ["self", "space", "lows", "highs"] d_Box_init.scope := ⟨rfl, rfl, rfl, by decide +kernel, rfl, by decide +kernel, by decide +kernel⟩
theorem ok_Box_init  (T : Tx K mg) : Ok P w K mg base 4 d_Box_init ["self", "space", "lows", "highs"] (spBoxInit K) := by
  refine T.at_Box_init.ok sc_Box_init (fun vs H Q E h => ?_) (fun _ _ _ _ _ _ us hl => match us, hl with | [_, _, _, _], _ => rfl) (fun cdv A outer s H vs Q E hr h => ?_)
  · obtain ⟨_, _, _, _, _, _, _, _, rfl, _⟩ := h; rfl
  · obtain ⟨p, dx, sp, al, ah, k, lo, hi, rfl, hS, hlo, hhi, ⟨ol, oh, le⟩, hp, q⟩ := h
    obtain ⟨dx1, hS1⟩ := hS.2
    have kl := kinds_le hS.1
    refine ⟨_, pss_cons (ps_for PassesOwn.never rfl (pi_tup (pe_tup (pa_cons (pv 2) (pa_cons (pv 3) pa_nil)))) (pg_name (i := 4) sc_Box_init.nd rfl (Or.inl rfl)) (pss_one (ps_expr (pe_mc (pv 1) (ok_Space_check_point T) hr (by decide) T.c_Space T.t_Space_check_point (pa_cons (pv 4) pa_nil))))) (pss_cons (ps_if (pt_not (pt_val (pe_callB (cr_all rfl) rfl T.f_all (by decide +kernel) (pa_cons (pe_lc (own := [("low", 5), ("high", 6)]) rfl sc_Box_init.nd (RZ.pi_zipA rfl T.f_zip (pa_cons (pv 2) (pa_cons (pv 3) pa_nil))) (blkOk_by (own := [("low", 5), ("high", 6)]) (N := ["self", "space", "lows", "highs", "point", "low", "high"]) (sc := d_Box_init.scope) (by decide +kernel)) (fun _ _ _ _ _ => pg_tupK (K0 := K) (n := 2) rfl rfl (pgs_cons (pg_name (i := 5) sc_Box_init.nd rfl (Or.inl rfl)) (pgs_cons (pg_name (i := 6) sc_Box_init.nd rfl (Or.inl rfl)) pgs_nil))) (fun _ _ _ _ _ => pts_nil) (fun _ _ _ _ _ => pe_cmpR op_le (pv 5) (pv 6) (nomark _))) pa_nil)))) (pss_never) (pss_nil)) (pss_cons (ps_fld (pv 0) (pv 1) rfl) (pss_cons (ps_fld (pv 0) (pv 2) rfl) (pss_one (ps_fld (pv 0) (pv 3) rfl))))), ?_⟩
    refine ⟨_, rfl, _, rfl, two_line, fun t ht => ⟨t, rfl, ⟨_, SqT.of upd_same⟩, ?_⟩⟩
    have s1 := Same.new (o := .tup [.ref al, .ref ah]) ht
    refine for_tup (xs := [.ref al, .ref ah]) (fun i σ H2 => Same (upd H t (.tup [.ref al, .ref ah])) H2 ∧ ∃ u, σ = [some (.ref p), some (.ref sp), some (.ref al), some (.ref ah), u, none, none]) ⟨Same.refl _, none, rfl⟩ (fun i σ H2 _ ⟨s2, _⟩ => SqT.of (s2 _ _ upd_same)) ?_ ?_
    · rintro i x σ H2 hx ⟨s2, u, rfl⟩
      have s12 := s1.trans s2
      obtain ⟨a, pt, rfl, ha, ok⟩ : ∃ (a : Addr) (pt : List Nat), x = .ref a ∧ TupN H2 a pt ∧ PtOk k pt := by
        match i, hx with
        | 0, hx => cases hx; exact ⟨al, lo, rfl, hlo.same s12, ol⟩
        | 1, hx => cases hx; exact ⟨ah, hi, rfl, hhi.same s12, oh⟩
        | i + 2, hx => cases hx
      obtain ⟨dx2, hS2⟩ := (hS.same s12).2
      exact ⟨_, rfl, _, _, _, rfl, hS2, (by kernel_rfl), _, rfl, sp, a, k, pt, rfl, hS.same s12, ha, ok, fun H3 s3 => ⟨s2.trans s3, some (.ref a), rfl⟩⟩
    · rintro σ H2 ⟨s2, u, rfl⟩
      have s12 := s1.trans s2
      have len : (hi.map nV).length = (lo.map nV).length := by rw [List.length_map, List.length_map, ol.1, oh.1]
      refine ⟨_, rfl, _, rfl, al, ah, lo.map nV, hi.map nV, rfl, .inr ⟨(hlo.same s12).sq, (hhi.same s12).sq, fun D hD => ?_⟩⟩
      refine lc_it (walk_zipT len) (fun i H3 => Same H2 H3 ∧ H3 D = some (.lst ((List.replicate i true).map V.bl))) ⟨Same.new hD, upd_same⟩ (fun i H3 _ ⟨s3, _⟩ => ⟨((hlo.same s12).same s3).sq, ((hhi.same s12).same s3).sq⟩) ?_ ?_
      · rintro i v H3 H4 hi1 ⟨s3, h3⟩ ⟨z, x, y, rfl, hz, rfl, e1, e2⟩
        rw [List.length_map, ol.1] at hi1
        obtain rfl : nV (lo.getD i 0) = x := Option.some.inj ((getD_map (by rw [ol.1]; exact hi1)).symm.trans e1)
        obtain rfl : nV (hi.getD i 0) = y := Option.some.inj ((getD_map (by rw [oh.1]; exact hi1)).symm.trans e2)
        have sz := Same.new (o := .tup [nV (lo.getD i 0), nV (hi.getD i 0)]) hz
        refine ⟨z, _, rfl, SqT.of upd_same, rfl, _, _, rfl, _, _, rfl, rfl, rfl, ?_⟩
        refine ⟨_, rfl, _, rfl, _, _, rfl, rfl, _, sz _ _ h3, ?_, ?_, upd_same.trans (congrArg (fun l => some (HO.lst l)) ?_)⟩
        · rw [List.length_map, List.length_replicate]
          exact small8 (by omega)
        · intro b o e
          rw [upd_ne (ne_of_none e hD)]
          exact sz _ _ (s3 b o e)
        · show _ ++ [V.bl (decide (((lo.getD i 0 : Nat) : Int) ≤ ((hi.getD i 0 : Nat) : Int)))] = _
          rw [decide_eq_true (show ((lo.getD i 0 : Nat) : Int) ≤ ((hi.getD i 0 : Nat) : Int) by have := le i hi1; omega), List.replicate_succ', List.map_append]
          rfl
      · rintro H3 ⟨s3, h3⟩
        refine ⟨D, _, rfl, SqL.of h3, true, congrArg V.bl (by simp), ?_⟩
        have hp3 : H3 p = some (.ins (He.ga K "Box") dx []) := s3 _ _ (s12 _ _ hp)
        refine iteF ⟨_, rfl, _, rfl, p, _, dx, [], rfl, hp3, T.c_Box, T.n_Box_space, (by decide), ?_⟩
        refine ⟨_, rfl, _, rfl, p, _, dx, _, rfl, upd_same, T.c_Box, T.n_Box_lows, (by rw [pBox_space]; show 1 < 1000; decide), ?_⟩
        refine ⟨_, rfl, _, rfl, p, _, dx, _, rfl, upd_same, T.c_Box, T.n_Box_highs, (by rw [pBox_space, pBox_lows]; show 2 < 1000; decide), ?_⟩
        refine q _ ((SameX.of_same (s12.trans s3)).trans ((SameX.upd.trans SameX.upd).trans SameX.upd)) (upd_same.trans (congrArg (fun l => some (HO.ins _ dx l)) ?_))
        rw [pBox_space, pBox_lows, pBox_highs]
        rfl
def spCloudInit (K : PySem.W.Frag) : Sp := fun vs H Q _ => ∃ (p dx sp a : Addr) (k : Kd) (pts : List (List Nat)), vs = [.ref p, .ref sp, .ref a] ∧ SpaceAt K H sp k ∧ PtsAt H a pts ∧ (∀ pt ∈ pts, PtOk k pt) ∧ (pts.map (wv k)).Nodup ∧ (∀ pt ∈ pts, wv k pt < 2 ^ k.D) ∧ pts.length ≤ 8 ∧
  H p = some (.ins (He.ga K "Cloud") dx []) ∧ ∀ H' ro, SameX p H H' → TupN H' ro (rowOf k (memF k pts)) → H' p = some (.ins (He.ga K "Cloud") dx (flCloud sp ro)) → Q .non H'
theorem sc_Cloud_init : FnScope ["self", "space", "points", "known", "point", "number"] ["self", "space", "points"] d_Cloud_init.scope := ⟨rfl, rfl, rfl, by decide +kernel, rfl, by decide +kernel, by decide +kernel⟩
theorem ok_Cloud_init  (T : Tx K mg) : Ok P w K mg base 5 d_Cloud_init ["self", "space", "points"] (spCloudInit K) := by
  refine T.at_Cloud_init.ok sc_Cloud_init (fun vs H Q E h => ?_) (fun _ _ _ _ _ _ us hl => match us, hl with | [_, _, _], _ => rfl) (fun cdv A outer s H vs Q E hr h => ?_)
  · obtain ⟨_, _, _, _, _, _, rfl, _⟩ := h; rfl
  · obtain ⟨p, dx, sp, a, k, pts, rfl, hS, hP, ok, nd, lt, l8, hp, q⟩ := h
    have hu := hu_of hr
    refine ⟨_, pss_cons (ps_set (i := 3) sc_Cloud_init.nd rfl (Or.inl rfl) pe_dnewK) (pss_cons (ps_for PassesOwn.never rfl (pi_tup (pv 2)) (pg_name (i := 4) sc_Cloud_init.nd rfl (Or.inl rfl)) (pss_cons (ps_set (i := 5) sc_Cloud_init.nd rfl (Or.inl rfl) (pe_mc (pv 1) (ok_Space_woven T) hr (by decide) T.c_Space T.t_Space_woven (pa_cons (pv 4) pa_nil))) (pss_cons (ps_if (pt_cmp (pc_din hu (pv 5) (pv 3))) (pss_never) (pss_nil)) (pss_one (ps_dput hu (pv 3) (pv 5) pe_bl rfl))))) (pss_cons (ps_fld (pv 0) (pv 1) rfl) (pss_one (ps_fld (pv 0) (pe_callTy call_tuple_of rfl T.f_tuple (by decide +kernel) (pa_cons (pe_callB (call_sortedDI rfl) rfl T.f_sorted (by decide +kernel) (pa_cons (pv 3) pa_nil)) pa_nil)) rfl)))), ?_⟩
    intro d hd
    obtain ⟨as, ha, hpt⟩ := hP
    have s1 := Same.new (o := .dK []) hd
    have kv : ∀ i, List (Key × V) := fun i => (pts.take i).map fun pt => (Sum.inl ((wv k pt : Nat) : Int), V.bl true)
    refine ⟨_, rfl, a, rfl, ⟨_, SqT.of (s1 _ _ ha)⟩, ?_⟩
    refine for_tup (xs := as.map V.ref) (fun i σ H2 => Same H H2 ∧ H2 d = some (.dK ((pts.take i).map fun pt => (Sum.inl ((wv k pt : Nat) : Int), V.bl true))) ∧ ∃ u v, σ = [some (.ref p), some (.ref sp), some (.ref a), some (.ref d), u, v]) ⟨s1, upd_same, none, none, rfl⟩ (fun i σ H2 _ ⟨s2, _⟩ => SqT.of (s2 _ _ ha)) ?_ ?_
    · rintro i x σ H2 hx ⟨s2, h2, u, v, rfl⟩
      obtain ⟨b, hb, rfl⟩ : ∃ b, as[i]? = some b ∧ x = V.ref b := by
        rw [List.getElem?_map] at hx
        cases e : as[i]? with
        | none => rw [e] at hx; cases hx
        | some y => rw [e] at hx; exact ⟨y, rfl, (Option.some.inj hx).symm⟩
      obtain ⟨pt, hpt1, hb1⟩ := paired_get hpt hb
      have mpt := List.mem_of_getElem? hpt1
      obtain ⟨dx2, hS2⟩ := (hS.same s2).2
      refine ⟨_, rfl, _, _, _, rfl, hS2, (by kernel_rfl), _, rfl, sp, b, k, pt, rfl, hS.same s2, hb1.same s2, ok pt mpt, fun H3 s3 => ?_⟩
      have h3 := s3 _ _ h2
      refine ⟨_, rfl, _, rfl, d, _, rfl, DGet.k (k := Sum.inl ((wv k pt : Nat) : Int)) h3, _, rfl, ?_⟩
      have tk : pts.take (i + 1) = pts.take i ++ [pt] := by
        rw [List.take_succ, hpt1]
        rfl
      have fresh : (Sum.inl ((wv k pt : Nat) : Int) : Key) ∉ ((pts.take i).map fun pt => ((Sum.inl ((wv k pt : Nat) : Int) : Key), V.bl true)).map (·.1) := by
        intro m
        rw [List.map_map, List.mem_map] at m
        obtain ⟨z, mz, ez⟩ := m
        have ez' : wv k z = wv k pt := by
          have : ((wv k z : Nat) : Int) = ((wv k pt : Nat) : Int) := Sum.inl.inj ez
          omega
        have nd2 : ((pts.take (i + 1)).map (wv k)).Nodup := List.Pairwise.sublist (List.Sublist.map _ (List.take_sublist _ _)) nd
        rw [tk, List.map_append, List.nodup_append] at nd2
        exact nd2.2.2 _ (List.mem_map.mpr ⟨z, mz, rfl⟩) _ (List.mem_singleton.mpr rfl) ez'
      have e1 := valV_no fresh
      rw [e1]
      refine iteF ?_
      refine ⟨_, rfl, _, rfl, d, _, rfl, DPut.k (k := Sum.inl ((wv k pt : Nat) : Int)) h3 (small8 (by rw [List.length_map, List.length_take]; omega)), ?_⟩
      have fr : H d = none := hd
      refine ⟨fun b o e => ?_, upd_same.trans (congrArg (fun l => some (HO.dK l)) ?_), some (.ref b), some (nV (wv k pt)), rfl⟩
      · rw [upd_ne (ne_of_none e fr)]
        exact s3 _ _ (s2 b o e)
      · rw [putK_new _ e1, tk, List.map_append]
        rfl
    · rintro σ H2 ⟨s2, h2, u, v, rfl⟩
      have el : (as.map V.ref).length = pts.length := by rw [List.length_map]; exact paired_len hpt
      rw [el, List.take_length] at h2
      have hp2 := s2 _ _ hp
      refine ⟨_, rfl, _, rfl, p, _, dx, [], rfl, hp2, T.c_Cloud, T.n_Cloud_space, (by decide), ?_⟩
      have npd : d ≠ p := fun e => by rw [← e, hd] at hp; cases hp
      refine ⟨_, rfl, d, _, (pts.map (wv k)).map fun x : Nat => (x : Int), rfl, .inl (by rw [upd_ne npd]; exact h2), ?_, ?_, fun ys l pe so hl => ?_⟩
      · rw [List.map_map, List.map_map, List.map_map]
        rfl
      · rw [List.length_map, List.length_map]
        omega
      have er := sorted_row (k := k) (f := memF k pts) pe so nd (fun z => by
        unfold memF
        rw [decide_eq_true_eq]
        refine ⟨fun m => ⟨?_, m⟩, fun m => m.2⟩
        obtain ⟨pt, mp, rfl⟩ := List.mem_map.mp m
        exact lt pt mp)
      refine ⟨l, _, rfl, .inl ⟨SqL.of upd_same, fun ro hro => ?_⟩⟩
      have nl : p ≠ l := fun e => by rw [← e, upd_same] at hl; cases hl
      have nro : p ≠ ro := fun e => by rw [← e, upd_ne nl, upd_same] at hro; cases hro
      refine ⟨_, rfl, p, _, dx, _, rfl, (by rw [upd_ne nro, upd_ne nl]; exact upd_same), T.c_Cloud, T.n_Cloud_row, (by rw [pCloud_space]; show 1 < 1000; decide), ?_⟩
      refine q _ ro (fun b o n e => ?_) ?_ (upd_same.trans (congrArg (fun l => some (HO.ins _ dx l)) ?_))
      · rw [upd_ne n]
        exact Same.new hro _ _ (Same.new hl _ _ (by rw [upd_ne n]; exact s2 b o e))
      · show L2.upd _ p _ ro = _
        rw [upd_ne nro.symm, upd_same, er, List.map_map]
        rfl
      · rw [pCloud_space, pCloud_row]
        rfl
end
end Fc

set_option Elab.async false
set_option autoImplicit false
set_option linter.all false
set_option maxRecDepth 100000
/-! Walks: knowledge, the rests. -/
namespace Fc
open PySem PySem.Spec PyProof.Rows L2
/-! ### rows of nodes -/
def PfsL (H : Hp) (a : Addr) (ps : List Pf) : Prop := ∃ as : List Addr, H a = some (.lst (as.map V.ref)) ∧ Paired (PfAt H) as ps
theorem pfs_same {H H' : Hp} (s : Same H H') : ∀ {as : List Addr} {ps : List Pf}, Paired (PfAt H) as ps → Paired (PfAt H') as ps
  | _, _, .nil => .nil
  | _, _, .cons h t => .cons (h.same s) (pfs_same s t)
theorem PfsL.same {H H' : Hp} {a : Addr} {ps : List Pf} (s : Same H H') : PfsL H a ps → PfsL H' a ps := fun ⟨as, h, p⟩ => ⟨as, s _ _ h, pfs_same s p⟩
theorem paired_snoc {α β : Type} {R : α → β → Prop} : ∀ {as : List α} {bs : List β} {a : α} {b : β}, Paired R as bs → R a b → Paired R (as ++ [a]) (bs ++ [b])
  | _, _, _, _, .nil, h => .cons h .nil
  | _, _, _, _, .cons h t, k => .cons h (paired_snoc t k)
def pfD (p : Pf) : PyData := .tuple [.int (p.1 : Nat), .int (p.2 : Nat)]
theorem PfAt.dp {K : PySem.W.Frag} {H : Hp} {a : Addr} {p : Pf} (h : PfAt H a p) : Dp K H (.ref a) (pfD p) := .tup h.sq (.cons (.int _) (.cons (.int _) .nil))
theorem pfD_shaped (p : Pf) : SeqAt.shaped (pfD p) = true := rfl
theorem pfD_eqv (p q : Pf) : PyData.eqv (pfD p) (pfD q) = decide (p = q) := by
  show (decide ((p.1 : Int) = (q.1 : Int)) && (decide ((p.2 : Int) = (q.2 : Int)) && true)) = _
  rw [Bool.and_true, Bool.eq_iff_iff, Bool.and_eq_true, decide_eq_true_eq, decide_eq_true_eq, decide_eq_true_eq]
  constructor
  · rintro ⟨h1, h2⟩
    exact Prod.ext (by omega) (by omega)
  · rintro rfl
    exact ⟨rfl, rfl⟩
/-! ### facts -/
def kN (p : Pf) : List Key := kP ((p.1 : Int), (p.2 : Int))
theorem kN_inj {p q : Pf} (h : kN p = kN q) : p = q := by
  have h1 := Sum.inl.inj (List.cons.inj h).1
  have h2 := Sum.inl.inj (List.cons.inj (List.cons.inj h).2).1
  exact Prod.ext (by omega) (by omega)
theorem PfAt.key {H : Hp} {a : Addr} {p : Pf} (h : PfAt H a p) : H a = some (.tup ((kN p).map kV)) := h
def cntM (k : Kd) (f : Nat → Bool) (p : Pf) : Nat := cR f (k.D - p.1) p.2
def factD (k : Kd) (f : Nat → Bool) (fs : List Pf) : List (List Key × V) := fs.map fun p => (kN p, nV (cntM k f p))
theorem valV_fact (k : Kd) (f : Nat → Bool) (p : Pf) : ∀ fs : List Pf, valV (factD k f fs) (kN p) = if p ∈ fs then some (nV (cntM k f p)) else none
  | [] => rfl
  | r :: fs => by
    by_cases e : r = p
    · subst e
      rw [if_pos (List.mem_cons_self ..)]
      exact valV_pos rfl
    · have z : valV (factD k f (r :: fs)) (kN p) = valV (factD k f fs) (kN p) := valV_neg fun z => e (kN_inj z)
      rw [z, valV_fact k f p fs]
      by_cases m : p ∈ fs
      · rw [if_pos m, if_pos (List.mem_cons_of_mem _ m)]
      · rw [if_neg m, if_neg fun z => (List.mem_cons.mp z).elim (fun y => e y.symm) m]
def FOk (k : Kd) (fs : List Pf) : Prop := fs.Nodup ∧ ∀ p ∈ fs, Valid k p
def KnowAt (K : PySem.W.Frag) (H : Hp) (a : Addr) (k : Kd) (f : Nat → Bool) (fs : List Pf) : Prop :=
  ∃ dx sp d, H a = some (.ins (He.ga K "Knowledge") dx (flKnowledge sp d)) ∧ SpaceAt K H sp k ∧ H d = some (.dT (factD k f fs)) ∧ FOk k fs
theorem KnowAt.same {K : PySem.W.Frag} {H H' : Hp} {a : Addr} {k : Kd} {f : Nat → Bool} {fs : List Pf} (s : Same H H') : KnowAt K H a k f fs → KnowAt K H' a k f fs :=
  fun ⟨dx, sp, d, h1, h2, h3, h4⟩ => ⟨dx, sp, d, s _ _ h1, h2.same s, s _ _ h3, h4⟩
/-- the facts in order -/
def ordM (fs : List Pf) : List Pf := fs.mergeSort leN
theorem ordM_pairs (fs : List Pf) : (fs.map fun p : Pf => ((p.1 : Int), (p.2 : Int))).mergeSort pLe = (ordM fs).map fun p : Pf => ((p.1 : Int), (p.2 : Int)) := by
  unfold ordM
  rw [List.map_mergeSort]
  intro a _ b _
  show leN a b = pLe _ _
  unfold leN pLe
  congr 1
  simp only [eq_iff_iff]
  show (a.1 < b.1 ∨ a.1 = b.1 ∧ a.2 ≤ b.2) ↔ ((a.1 : Int) < (b.1 : Int) ∨ (a.1 : Int) = (b.1 : Int) ∧ (a.2 : Int) ≤ (b.2 : Int))
  omega
theorem pairsAt_pfs {H : Hp} : ∀ {as : List Addr} {ps : List Pf}, PairsAt H as (ps.map fun p : Pf => ((p.1 : Int), (p.2 : Int))) → Paired (PfAt H) as ps
  | [], [], .nil => .nil
  | _ :: _, _ :: _, .cons h t => .cons h (pairsAt_pfs t)
/-- a rest: node, count (none for the untold whole), the known ones within -/
abbrev RestV := Pf × Option Nat × List Pf
def cnV : Option Nat → V
  | none => .non
  | some n => nV n
def RestAt (K : PySem.W.Frag) (H : Hp) (a : Addr) (x : RestV) : Prop :=
  ∃ dx pr inn, H a = some (.ins (He.ga K "Rest") dx (flRest pr (cnV x.2.1) inn)) ∧ PfAt H pr x.1 ∧ PfsL H inn x.2.2
theorem RestAt.same {K : PySem.W.Frag} {H H' : Hp} {a : Addr} {x : RestV} (s : Same H H') : RestAt K H a x → RestAt K H' a x :=
  fun ⟨dx, pr, inn, h1, h2, h3⟩ => ⟨dx, pr, inn, s _ _ h1, h2.same s, h3.same s⟩
def RestsL (K : PySem.W.Frag) (H : Hp) (a : Addr) (xs : List RestV) : Prop := ∃ as : List Addr, H a = some (.lst (as.map V.ref)) ∧ Paired (RestAt K H) as xs
theorem rests_same {K : PySem.W.Frag} {H H' : Hp} (s : Same H H') : ∀ {as : List Addr} {xs : List RestV}, Paired (RestAt K H) as xs → Paired (RestAt K H') as xs
  | _, _, .nil => .nil
  | _, _, .cons h t => .cons (h.same s) (rests_same s t)
theorem RestsL.same {K : PySem.W.Frag} {H H' : Hp} {a : Addr} {xs : List RestV} (s : Same H H') : RestsL K H a xs → RestsL K H' a xs := fun ⟨as, h, p⟩ => ⟨as, s _ _ h, rests_same s p⟩
def restsM (k : Kd) (f : Nat → Bool) (fs : List Pf) : List RestV :=
  (if (0, 0) ∈ fs then [] else [((0, 0), none, innM (0, 0) (ordM fs))]) ++ (ordM fs).map fun p => (p, some (cntM k f p), innM p (ordM fs))
theorem ordM_mem (fs : List Pf) (p : Pf) : p ∈ ordM fs ↔ p ∈ fs := List.mem_mergeSort
theorem ordM_len (fs : List Pf) : (ordM fs).length = fs.length := List.length_mergeSort ..
/-- all nodes -/
def nodesTo (D : Nat) : List Pf := (List.range (D + 1)).flatMap fun l => (List.range (2 ^ l)).map fun n => (l, n)
theorem nodup_len {α : Type} [DecidableEq α] : ∀ {xs L : List α}, xs.Nodup → (∀ x ∈ xs, x ∈ L) → xs.length ≤ L.length
  | [], _, _, _ => Nat.zero_le _
  | x :: xs, L, nd, sub => by
    have m := sub x (List.mem_cons_self ..)
    have ih := nodup_len (L := L.erase x) (List.nodup_cons.mp nd).2 fun y hy => (List.mem_erase_of_ne fun e => (List.nodup_cons.mp nd).1 (by rw [← e]; exact hy)).mpr (sub y (List.mem_cons_of_mem _ hy))
    rw [List.length_erase_of_mem m] at ih
    have := List.length_pos_of_mem m
    rw [List.length_cons]
    omega
theorem FOk.len {k : Kd} (hk : k ∈ kinds) {fs : List Pf} (h : FOk k fs) : fs.length ≤ 15 := by
  have l := kinds_le hk
  refine nodup_len (L := nodesTo 3) h.1 fun p hp => ?_
  · have v := h.2 p hp
    refine List.mem_flatMap.mpr ⟨p.1, List.mem_range.mpr (by have := v.1; omega), List.mem_map.mpr ⟨p.2, List.mem_range.mpr v.2, rfl⟩⟩
theorem mapGet {α β : Type} {g : α → β} {xs : List α} {i : Nat} {y : β} (h : (xs.map g)[i]? = some y) : ∃ x, xs[i]? = some x ∧ y = g x := by
  rw [List.getElem?_map] at h
  cases e : xs[i]? with
  | none => rw [e] at h; cases h
  | some x => rw [e] at h; exact ⟨x, rfl, (Option.some.inj h).symm⟩
theorem same_on {H H' : Hp} {D : Addr} {o : HO} (s : Same H H') (h : H D = none) : Same H (upd H' D o) := fun b z e => by
  rw [upd_ne (ne_of_none e h)]
  exact s b z e
theorem takeGet {α : Type} {xs : List α} {i : Nat} {x : α} (h : xs[i]? = some x) : xs.take (i + 1) = xs.take i ++ [x] := by
  rw [List.take_succ, h]
  rfl
section
variable {P : Program} {w : World} {K : PySem.W.Frag} {mg : Str → Option Value} {base : Heap}
/-! ### next_inside -/
def spNext (K : PySem.W.Frag) : Sp := fun vs H Q _ => ∃ (a b c : Addr) (p : Pf) (order : List Pf), vs = [.ref a, .ref b, .ref c] ∧ PfAt H b p ∧ PfsL H c order ∧ (∀ q ∈ order, q.1 ≤ 3) ∧ order.length ≤ 15 ∧
  ∀ H' r, Same H H' → H r = none → PfsL H' r (innM p order) → Q (.ref r) H'
theorem innStep_len (p : Pf) (st : List Pf) (x : Pf) : (innStep p st x).length ≤ st.length + 1 := by
  unfold innStep
  split
  · rw [List.length_append]
    exact Nat.le_refl _
  · omega
theorem innM_len (p : Pf) (order : List Pf) : ∀ n : Nat, ((order.take n).foldl (innStep p) []).length ≤ n
  | 0 => by simp
  | n + 1 => by
    have ih := innM_len p order n
    cases e : order[n]? with
    | none =>
      have : order.take (n + 1) = order.take n := by
        rw [List.take_succ, e]
        simp
      rw [this]
      omega
    | some x =>
      rw [takeGet e, List.foldl_append]
      exact Nat.le_trans (innStep_len p _ x) (by omega)
theorem pfs_upd {H : Hp} {F : Addr} {xs ys : List V} (h : H F = some (.lst xs)) {as : List Addr} {ps : List Pf} (k : Paired (PfAt H) as ps) : Paired (PfAt (upd H F (.lst ys))) as ps := by
  induction k with
  | nil => exact .nil
  | @cons a p as ps h1 _ ih =>
    refine .cons ?_ ih
    have e : H a = some (.tup _) := h1
    have ne : a ≠ F := ne_of e h (by intro z; cases z)
    show upd H F _ a = _
    rw [upd_ne ne]
    exact h1
theorem sc_Knowledge_next_inside : FnScope ["self", "prefix", "order", "found", "one", "other"] ["self", "prefix", "order"] d_Knowledge_next_inside.scope := ⟨rfl, rfl, rfl, by decide +kernel, rfl, by decide +kernel, by decide +kernel⟩
theorem ok_Knowledge_next_inside  (T : Tx K mg) : Ok P w K mg base 3 d_Knowledge_next_inside ["self", "prefix", "order"] (spNext K) := by
  refine T.at_Knowledge_next_inside.ok sc_Knowledge_next_inside (fun vs H Q E h => ?_) (fun _ _ _ _ _ _ us hl => match us, hl with | [_, _, _], _ => rfl) (fun cdv A outer s H vs Q E hr h => ?_)
  · obtain ⟨_, _, _, _, _, rfl, _⟩ := h; rfl
  · obtain ⟨a, b, c, p, order, rfl, hp, ⟨as, hc, hor⟩, l3, l15, q⟩ := h
    refine ⟨_, pss_cons (ps_set (i := 3) sc_Knowledge_next_inside.nd rfl (Or.inl rfl) (pe_lst pa_nil)) (pss_cons (ps_for PassesOwn.never rfl (pi_list (pv 2)) (pg_name (i := 4) sc_Knowledge_next_inside.nd rfl (Or.inr rfl)) (pss_one (ps_if (PW.pt (pw_and (pt_cmpR (op_neD hr.units) (pv 4) (pv 1) (nomark _)) (pw_and (pt_val (pe_fc (ok_is_inside T) hr (by decide) rfl T.g_is_inside (pa_cons (pv 4) (pa_cons (pv 1) pa_nil))))
      (pw_and1 (pt_not (pt_val (pe_callB (cr_any rfl) rfl T.f_any (by decide +kernel) (pa_cons (pe_lc (own := [("other", 5)]) rfl sc_Knowledge_next_inside.nd (pi_list (pv 3)) (blkOk_by (own := [("other", 5)]) (N := ["self", "prefix", "order", "found", "one", "other"]) (sc := d_Knowledge_next_inside.scope) (by decide +kernel)) (fun _ _ _ _ _ => pg_name (i := 5) sc_Knowledge_next_inside.nd rfl (Or.inl rfl)) (fun _ _ _ _ _ => pts_nil) (fun _ _ _ _ _ => pe_fc (ok_is_inside T) hr (by decide) rfl T.g_is_inside (pa_cons (pv 4) (pa_cons (pv 5) pa_nil)))) pa_nil)))))))) (pss_one (ps_expr (pe_bm PySem.F.plainAttrs_list PySem.F.slot_list_append PySem.F.type_list_append mt_append (pv 3) (pa_cons (pv 4) pa_nil)))) (pss_nil)))) (pss_one (ps_ret (pv 3)))), ?_⟩
    refine ⟨Nat.zero_le _, fun F hF => ?_⟩
    refine ⟨_, rfl, c, rfl, ⟨_, SqL.of (Same.new hF _ _ hc)⟩, ?_⟩
    refine for_list (xs := as.map V.ref) (fun i σ H2 => Same H H2 ∧ PfsL H2 F ((order.take i).foldl (innStep p) []) ∧ ∃ u, σ = [some (.ref a), some (.ref b), some (.ref c), some (.ref F), u, none]) ⟨Same.new hF, ⟨[], upd_same, .nil⟩, none, rfl⟩ (fun i σ H2 _ ⟨s2, _⟩ => SqL.of (s2 _ _ hc)) ?_ ?_
    · rintro i x σ H2 hx ⟨s2, ⟨bs, h2, hb⟩, u, rfl⟩
      obtain ⟨e, he, rfl⟩ := mapGet hx
      obtain ⟨one, hone, he1⟩ := paired_get hor he
      have h3 := l3 one (List.mem_of_getElem? hone)
      have he2 := he1.same s2
      have hp2 := hp.same s2
      have lenF : ((order.take i).foldl (innStep p) []).length < sizeLine := small8 (by have := innM_len p order i; have := (List.getElem?_eq_some_iff.mp hone).1; omega)
      refine ⟨_, rfl, _, rfl, _, _, he2.dp, hp2.dp, pfD_shaped _, pfD_shaped _, _, rfl, ?_⟩
      rw [pfD_eqv]
      generalize hst : (order.take i).foldl (innStep p) [] = st at *
      have nxt : (order.take (i + 1)).foldl (innStep p) [] = innStep p st one := by rw [takeGet hone, List.foldl_append, hst]; rfl
      rw [nxt]
      unfold innStep
      by_cases e1 : one = p
      · rw [decide_eq_true e1]
        refine ⟨s2, ?_, some (.ref e), rfl⟩
        rw [show decide (one ≠ p) = false from decide_eq_false fun z => z e1]
        exact ⟨bs, h2, hb⟩
      rw [decide_eq_false e1, show decide (one ≠ p) = true from decide_eq_true e1, Bool.true_and]
      refine ⟨_, rfl, _, rfl, e, b, one, p, rfl, he2, hp2, h3, _, rfl, ?_⟩
      cases e2 : isIn one p with
      | false =>
        refine iteF ⟨s2, ?_, some (.ref e), rfl⟩
        exact ⟨bs, h2, hb⟩
      | true =>
        refine iteT ?_
        rw [Bool.true_and]
        refine ⟨_, rfl, F, rfl, ⟨_, SqL.of h2⟩, fun D hD => ?_⟩
        refine lc_list (xs := bs.map V.ref) (fun j H3 => Same H2 H3 ∧ H3 D = some (.lst (((st.take j).map fun o => isIn one o).map V.bl))) ⟨Same.new hD, upd_same⟩ (fun j H3 _ ⟨s3, _⟩ => SqL.of (s3 _ _ h2)) ?_ ?_
        · rintro j x H3 hx3 ⟨s3, h3'⟩
          obtain ⟨g, hg, rfl⟩ := mapGet hx3
          obtain ⟨ot, hot, hg1⟩ := paired_get hb hg
          have lj := (List.getElem?_eq_some_iff.mp hot).1
          refine ⟨rfl, _, rfl, _, rfl, e, g, one, ot, rfl, he2.same s3, hg1.same s3, h3, _, h3', ?_, same_on s3 hD, upd_same.trans (congrArg (fun l => some (HO.lst l)) ?_)⟩
          · rw [List.length_map, List.length_map, List.length_take]
            omega
          · rw [takeGet hot, List.map_append, List.map_append]
            rfl
        · rintro H3 ⟨s3, h3'⟩
          rw [List.length_map, paired_len hb, List.take_length] at h3'
          refine ⟨D, _, rfl, SqL.of h3', _, rfl, ?_⟩
          have ea : (st.map fun o => isIn one o).any id = st.any fun o => isIn one o := by rw [List.any_map]; rfl
          rw [ea]
          cases e3 : st.any fun o => isIn one o with
          | true => exact ⟨s2.trans s3, ⟨bs, s3 _ _ h2, pfs_same s3 hb⟩, some (.ref e), rfl⟩
          | false =>
            refine ⟨_, rfl, .inl ⟨rfl, _, SqL.of (s3 _ _ h2)⟩, _, rfl, F, _, _, rfl, rfl, s3 _ _ h2, ?_, same_on (s2.trans s3) hF, ⟨bs ++ [e], ?_, ?_⟩, some (.ref e), rfl⟩
            · rw [List.length_map, paired_len hb]
              exact lenF
            · rw [List.map_append]
              exact upd_same
            · exact pfs_upd (s3 _ _ h2) (paired_snoc (pfs_same s3 hb) (he2.same s3))
    · rintro σ H2 ⟨s2, h2, u, rfl⟩
      rw [List.length_map, paired_len hor, List.take_length] at h2
      exact ⟨_, rfl, q _ F s2 hF h2⟩
end
end Fc

set_option Elab.async false
set_option autoImplicit false
set_option linter.all false
set_option maxRecDepth 100000
/-! Walks: the numbers of a rest. -/
namespace Fc
open PySem PySem.Spec PyProof.Rows L2
theorem sum_cast : ∀ l : List Nat, (l.map fun x : Nat => (x : Int)).sum = ((l.sum : Nat) : Int)
  | [] => rfl
  | x :: l => by
    rw [List.map_cons, List.sum_cons, List.sum_cons, sum_cast l, Int.natCast_add]
def leftZ (k : Kd) (f : Nat → Bool) (n : Nat) (inn : List Pf) : Int := (n : Int) - ((inn.map (cntM k f)).sum : Nat)
def sizeM (k : Kd) (p : Pf) : Nat := 2 ^ (k.D - p.1)
def roomZ (k : Kd) (x : RestV) : Int := (sizeM k x.1 : Int) - ((x.2.2.map (sizeM k)).sum : Nat)
def inZ (k : Kd) (lo hi : List Nat) (x : RestV) : Int := (roomM k lo hi x.1 : Int) - ((x.2.2.map (roomM k lo hi)).sum : Nat)
/-- a rest of the facts -/
def RestOk (k : Kd) (fs : List Pf) (x : RestV) : Prop := Valid k x.1 ∧ (∀ q ∈ x.2.2, q ∈ fs) ∧ x.2.2.length ≤ 15
theorem map_nV (l : List Nat) : l.map nV = (l.map fun x : Nat => (x : Int)).map V.int := by rw [List.map_map]; rfl
section
variable {P : Program} {w : World} {K : PySem.W.Frag} {mg : Str → Option Value} {base : Heap}
def spLeft (K : PySem.W.Frag) : Sp := fun vs H Q _ => ∃ (a b : Addr) (k : Kd) (f : Nat → Bool) (fs : List Pf) (x : RestV) (n : Nat), vs = [.ref a, .ref b] ∧ KnowAt K H a k f fs ∧ RestAt K H b x ∧ RestOk k fs x ∧ x.2.1 = some n ∧
  ∀ H', Same H H' → Q (.int (leftZ k f n x.2.2)) H'
theorem sc_Knowledge_points_left : FnScope ["self", "rest", "one"] ["self", "rest"] d_Knowledge_points_left.scope := ⟨rfl, rfl, rfl, by decide +kernel, rfl, by decide +kernel, by decide +kernel⟩
theorem ok_Knowledge_points_left  (T : Tx K mg) : Ok P w K mg base 1 d_Knowledge_points_left ["self", "rest"] (spLeft K) := by
  refine T.at_Knowledge_points_left.ok sc_Knowledge_points_left (fun vs H Q E h => ?_) (fun _ _ _ _ _ _ us hl => match us, hl with | [_, _], _ => rfl) (fun cdv A outer s H vs Q E hr h => ?_)
  · obtain ⟨_, _, _, _, _, _, _, rfl, _⟩ := h; rfl
  · obtain ⟨a, b, k, f, fs, x, n, rfl, ⟨dx, sp, d, hK, hS, hd, ok⟩, ⟨dx2, pr, inn, hR, hpr, ⟨as, hi, has⟩⟩, ro, en, q⟩ := h
    rw [en] at hR
    have hu := hu_of hr
    refine ⟨_, pss_one (ps_ret (pe_op op_sub (pe_fld (pv 1) rfl) (pe_callB (cr_sum rfl) rfl T.f_sum (by decide +kernel) (pa_cons (pe_lc (own := [("one", 2)]) rfl sc_Knowledge_points_left.nd (pi_list (pe_fld (pv 1) rfl)) (blkOk_by (own := [("one", 2)]) (N := ["self", "rest", "one"]) (sc := d_Knowledge_points_left.scope) (by decide +kernel)) (fun _ _ _ _ _ => pg_name (i := 2) sc_Knowledge_points_left.nd rfl (Or.inl rfl)) (fun _ _ _ _ _ => pts_nil) (fun _ _ _ _ _ => pe_dget hu (pe_fldK (K0 := K) rfl (pv 0) rfl) (pv 2) (fun _ _ => rfl))) pa_nil)))), ?_⟩
    refine ⟨_, rfl, _, _, _, _, _, rfl, hR, T.c_Rest, T.n_Rest_count, lRest_count, _, rfl, _, _, _, _, _, rfl, hR, T.c_Rest, T.n_Rest_inner, lRest_inner, inn, rfl, ⟨_, SqL.of hi⟩, fun D hD => ?_⟩
    refine lc_list (xs := as.map V.ref) (fun j H2 => Same H H2 ∧ H2 D = some (.lst (((x.2.2.take j).map (cntM k f)).map nV))) ⟨Same.new hD, upd_same⟩ (fun j H2 _ ⟨s2, _⟩ => SqL.of (s2 _ _ hi)) ?_ ?_
    · rintro j y H2 hx ⟨s2, h2⟩
      obtain ⟨g, hg, rfl⟩ := mapGet hx
      obtain ⟨o, ho, hg1⟩ := paired_get has hg
      have mo := ro.2.1 o (List.mem_of_getElem? ho)
      have vo : valV (factD k f fs) (kN o) = some (nV (cntM k f o)) := by rw [valV_fact, if_pos mo]
      have dg := DGet.t (s2 _ _ hd) (hg1.same s2).key
      rw [vo] at dg
      refine ⟨rfl, _, rfl, _, _, _, _, _, rfl, (s2 _ _ hK), T.c_Knowledge, T.n_Knowledge_facts, lKnowledge_facts, _, rfl, d, _, rfl, dg, _, h2, ?_, same_on s2 hD, upd_same.trans (congrArg (fun l => some (HO.lst l)) ?_)⟩
      · rw [List.length_map, List.length_map, List.length_take]
        have := ro.2.2
        exact small8 (by omega)
      · rw [takeGet ho, List.map_append, List.map_append]
        rfl
    · rintro H2 ⟨s2, h2⟩
      rw [List.length_map, paired_len has, List.take_length] at h2
      refine ⟨D, (x.2.2.map (cntM k f)).map fun x : Nat => (x : Int), rfl, SqL.of (by rw [← map_nV]; exact h2), _, _, rfl, rfl, ?_⟩
      show Q (V.int (_ - (List.map _ _).sum)) _
      rw [sum_cast]
      exact q _ s2
def spRestRoom (K : PySem.W.Frag) : Sp := fun vs H Q _ => ∃ (a b : Addr) (k : Kd) (f : Nat → Bool) (fs : List Pf) (x : RestV), vs = [.ref a, .ref b] ∧ KnowAt K H a k f fs ∧ RestAt K H b x ∧ RestOk k fs x ∧
  ∀ H', Same H H' → Q (.int (roomZ k x)) H'
theorem sc_Knowledge_room : FnScope ["self", "rest", "one"] ["self", "rest"] d_Knowledge_room.scope := ⟨rfl, rfl, rfl, by decide +kernel, rfl, by decide +kernel, by decide +kernel⟩
theorem ok_Knowledge_room  (T : Tx K mg) : Ok P w K mg base 3 d_Knowledge_room ["self", "rest"] (spRestRoom K) := by
  refine T.at_Knowledge_room.ok sc_Knowledge_room (fun vs H Q E h => ?_) (fun _ _ _ _ _ _ us hl => match us, hl with | [_, _], _ => rfl) (fun cdv A outer s H vs Q E hr h => ?_)
  · obtain ⟨_, _, _, _, _, _, rfl, _⟩ := h; rfl
  · obtain ⟨a, b, k, f, fs, x, rfl, ⟨dx, sp, d, hK, hS, hd, ok⟩, ⟨dx2, pr, inn, hR, hpr, ⟨as, hi, has⟩⟩, ro, q⟩ := h
    obtain ⟨dx1, hS1⟩ := hS.2
    refine ⟨_, pss_one (ps_ret (pe_op op_sub (pe_mc (pe_fld (pv 0) rfl) (ok_Space_size T) hr (by decide) T.c_Space T.t_Space_size (pa_cons (pe_fld (pv 1) rfl) pa_nil)) (pe_callB (cr_sum rfl) rfl T.f_sum (by decide +kernel) (pa_cons (pe_lc (own := [("one", 2)]) rfl sc_Knowledge_room.nd (pi_list (pe_fld (pv 1) rfl)) (blkOk_by (own := [("one", 2)]) (N := ["self", "rest", "one"]) (sc := d_Knowledge_room.scope) (by decide +kernel)) (fun _ _ _ _ _ => pg_name (i := 2) sc_Knowledge_room.nd rfl (Or.inl rfl)) (fun _ _ _ _ _ => pts_nil) (fun _ _ _ _ _ => pe_mcK (K0 := K) rfl (pe_fldK (K0 := K) rfl (pv 0) rfl) (ok_Space_size T) hr (by decide) T.c_Space T.t_Space_size (pa_cons (pv 2) pa_nil))) pa_nil)))), ?_⟩
    refine ⟨_, rfl, _, _, _, _, _, rfl, hK, T.c_Knowledge, T.n_Knowledge_space, lKnowledge_space, _, _, _, rfl, hS1, (by kernel_rfl), _, rfl, _, _, _, _, _, rfl, hR, T.c_Rest, T.n_Rest_prefix, lRest_prefix, sp, pr, k, x.1, rfl, hS, hpr, ro.1.1, _, rfl, _, _, _, _, _, rfl, hR, T.c_Rest, T.n_Rest_inner, lRest_inner, inn, rfl, ⟨_, SqL.of hi⟩, fun D hD => ?_⟩
    refine lc_list (xs := as.map V.ref) (fun j H2 => Same H H2 ∧ H2 D = some (.lst (((x.2.2.take j).map (sizeM k)).map nV))) ⟨Same.new hD, upd_same⟩ (fun j H2 _ ⟨s2, _⟩ => SqL.of (s2 _ _ hi)) ?_ ?_
    · rintro j y H2 hx ⟨s2, h2⟩
      obtain ⟨g, hg, rfl⟩ := mapGet hx
      obtain ⟨o, ho, hg1⟩ := paired_get has hg
      have mo := ok.2 o (ro.2.1 o (List.mem_of_getElem? ho))
      refine ⟨rfl, _, rfl, _, _, _, _, _, rfl, (s2 _ _ hK), T.c_Knowledge, T.n_Knowledge_space, lKnowledge_space, _, _, _, rfl, (s2 _ _ hS1), (by kernel_rfl), _, rfl, sp, g, k, o, rfl, hS.same s2, hg1.same s2, mo.1, _, h2, ?_, same_on s2 hD, upd_same.trans (congrArg (fun l => some (HO.lst l)) ?_)⟩
      · rw [List.length_map, List.length_map, List.length_take]
        have := ro.2.2
        exact small8 (by omega)
      · rw [takeGet ho, List.map_append, List.map_append]
        rfl
    · rintro H2 ⟨s2, h2⟩
      rw [List.length_map, paired_len has, List.take_length] at h2
      refine ⟨D, (x.2.2.map (sizeM k)).map fun x : Nat => (x : Int), rfl, SqL.of (by rw [← map_nV]; exact h2), _, _, rfl, rfl, ?_⟩
      show Q (V.int (_ - (List.map _ _).sum)) _
      rw [sum_cast]
      exact q _ s2
def spRoomIn (K : PySem.W.Frag) : Sp := fun vs H Q _ => ∃ (a b c : Addr) (k : Kd) (lo hi : List Nat) (fs : List Pf) (x : RestV), vs = [.ref a, .ref b, .ref c] ∧ BoxAt K H c k lo hi ∧ RestAt K H b x ∧ RestOk k fs x ∧ FOk k fs ∧
  ∀ H', Same H H' → Q (.int (inZ k lo hi x)) H'
theorem sc_Knowledge_room_in : FnScope ["self", "rest", "region", "one"] ["self", "rest", "region"] d_Knowledge_room_in.scope := ⟨rfl, rfl, rfl, by decide +kernel, rfl, by decide +kernel, by decide +kernel⟩
theorem ok_Knowledge_room_in  (T : Tx K mg) : Ok P w K mg base 5 d_Knowledge_room_in ["self", "rest", "region"] (spRoomIn K) := by
  refine T.at_Knowledge_room_in.ok sc_Knowledge_room_in (fun vs H Q E h => ?_) (fun _ _ _ _ _ _ us hl => match us, hl with | [_, _, _], _ => rfl) (fun cdv A outer s H vs Q E hr h => ?_)
  · obtain ⟨_, _, _, _, _, _, _, _, rfl, _⟩ := h; rfl
  · obtain ⟨a, b, c, k, lo, hi', fs, x, rfl, B, ⟨dx2, pr, inn, hR, hpr, ⟨as, hi, has⟩⟩, ro, ok, q⟩ := h
    refine ⟨_, pss_one (ps_ret (pe_op op_sub (pe_mc (pv 2) (ok_Box_room T) hr (by decide) T.c_Box T.t_Box_room (pa_cons (pe_fld (pv 1) rfl) pa_nil)) (pe_callB (cr_sum rfl) rfl T.f_sum (by decide +kernel) (pa_cons (pe_lc (own := [("one", 3)]) rfl sc_Knowledge_room_in.nd (pi_list (pe_fld (pv 1) rfl)) (blkOk_by (own := [("one", 3)]) (N := ["self", "rest", "region", "one"]) (sc := d_Knowledge_room_in.scope) (by decide +kernel)) (fun _ _ _ _ _ => pg_name (i := 3) sc_Knowledge_room_in.nd rfl (Or.inl rfl)) (fun _ _ _ _ _ => pts_nil) (fun _ _ _ _ _ => pe_mcK (K0 := K) rfl (pv 2) (ok_Box_room T) hr (by decide) T.c_Box T.t_Box_room (pa_cons (pv 3) pa_nil))) pa_nil)))), ?_⟩
    obtain ⟨dxb, sp, al, ah, hB, _⟩ := id B
    refine ⟨_, rfl, _, _, _, rfl, hB, (by kernel_rfl), _, rfl, _, _, _, _, _, rfl, hR, T.c_Rest, T.n_Rest_prefix, lRest_prefix, c, pr, k, lo, hi', x.1, rfl, B, hpr, ro.1.1, fun H1 s1 => ?_⟩
    refine ⟨_, rfl, _, _, _, _, _, rfl, (s1 _ _ hR), T.c_Rest, T.n_Rest_inner, lRest_inner, inn, rfl, ⟨_, SqL.of (s1 _ _ hi)⟩, fun D hD => ?_⟩
    refine lc_list (xs := as.map V.ref) (fun j H2 => Same H1 H2 ∧ H2 D = some (.lst (((x.2.2.take j).map (roomM k lo hi')).map nV))) ⟨Same.new hD, upd_same⟩ (fun j H2 _ ⟨s2, _⟩ => SqL.of (s2 _ _ (s1 _ _ hi))) ?_ ?_
    · rintro j y H2 hx ⟨s2, h2⟩
      obtain ⟨g, hg, rfl⟩ := mapGet hx
      obtain ⟨o, ho, hg1⟩ := paired_get has hg
      have mo := ok.2 o (ro.2.1 o (List.mem_of_getElem? ho))
      have s12 := s1.trans s2
      refine ⟨rfl, _, rfl, _, _, _, rfl, (s12 _ _ hB), (by kernel_rfl), _, rfl, c, g, k, lo, hi', o, rfl, B.same s12, hg1.same s12, mo.1, fun H3 s3 => ⟨_, s3 _ _ h2, ?_, same_on (s2.trans s3) hD, upd_same.trans (congrArg (fun l => some (HO.lst l)) ?_)⟩⟩
      · rw [List.length_map, List.length_map, List.length_take]
        have := ro.2.2
        exact small8 (by omega)
      · rw [takeGet ho, List.map_append, List.map_append]
        rfl
    · rintro H2 ⟨s2, h2⟩
      rw [List.length_map, paired_len has, List.take_length] at h2
      refine ⟨D, (x.2.2.map (roomM k lo hi')).map fun x : Nat => (x : Int), rfl, SqL.of (by rw [← map_nV]; exact h2), _, _, rfl, rfl, ?_⟩
      show Q (V.int (_ - (List.map _ _).sum)) _
      rw [sum_cast]
      exact q _ (s1.trans s2)
def spFit (K : PySem.W.Frag) : Sp := fun vs H Q _ => ∃ (a b : Addr) (k : Kd) (f : Nat → Bool) (fs : List Pf) (x : RestV), vs = [.ref a, .ref b] ∧ KnowAt K H a k f fs ∧ RestAt K H b x ∧ RestOk k fs x ∧
  (∀ n, x.2.1 = some n → 0 ≤ leftZ k f n x.2.2 ∧ leftZ k f n x.2.2 ≤ roomZ k x) ∧ ∀ H', Same H H' → Q (.bl true) H'
theorem sc_Knowledge_is_fit : FnScope ["self", "rest"] ["self", "rest"] d_Knowledge_is_fit.scope := ⟨rfl, rfl, rfl, by decide +kernel, rfl, by decide +kernel, by decide +kernel⟩
theorem ok_Knowledge_is_fit  (T : Tx K mg) : Ok P w K mg base 4 d_Knowledge_is_fit ["self", "rest"] (spFit K) := by
  refine T.at_Knowledge_is_fit.ok sc_Knowledge_is_fit (fun vs H Q E h => ?_) (fun _ _ _ _ _ _ us hl => match us, hl with | [_, _], _ => rfl) (fun cdv A outer s H vs Q E hr h => ?_)
  · obtain ⟨_, _, _, _, _, _, rfl, _⟩ := h; rfl
  · obtain ⟨a, b, k, f, fs, x, rfl, hKn, hRe, ro, fit, q⟩ := h
    obtain ⟨dx, sp, d, hK, _⟩ := id hKn
    obtain ⟨dx2, pr, inn, hR, _⟩ := id hRe
    refine ⟨_, pss_cons (ps_if (pt_cmpR op_isN (pe_fld (pv 1) rfl) pe_non (nomark _)) (pss_one (ps_ret pe_bl)) (pss_nil)) (pss_one (ps_ret (pe_chain op_le op_le pe_int (pe_mc (pv 0) (ok_Knowledge_points_left T) hr (by decide) T.c_Knowledge T.t_Knowledge_points_left (pa_cons (pv 1) pa_nil)) (pe_mc (pv 0) (ok_Knowledge_room T) hr (by decide) T.c_Knowledge T.t_Knowledge_room (pa_cons (pv 1) pa_nil))))), ?_⟩
    refine ⟨_, rfl, _, _, _, _, _, rfl, hR, T.c_Rest, T.n_Rest_count, lRest_count, rfl, _, rfl, ?_⟩
    cases en : x.2.1 with
    | none => exact q _ (Same.refl _)
    | some n =>
      obtain ⟨f1, f2⟩ := fit n en
      refine iteF ⟨_, rfl, _, _, _, rfl, hK, (by kernel_rfl), _, rfl, a, b, k, f, fs, x, n, rfl, hKn, hRe, ro, en, fun H1 s1 => ?_⟩
      refine ⟨_, _, rfl, rfl, true, congrArg V.bl (decide_eq_true f1), ?_⟩
      refine ⟨_, rfl, _, _, _, rfl, (s1 _ _ hK), (by kernel_rfl), _, rfl, a, b, k, f, fs, x, rfl, hKn.same s1, hRe.same s1, ro, fun H2 s2 => ⟨_, _, rfl, rfl, ?_⟩⟩
      show Q (V.bl (decide (leftZ k f n x.2.2 ≤ roomZ k x))) H2
      rw [decide_eq_true f2]
      exact q _ (s1.trans s2)
def spIsPrefix (K : PySem.W.Frag) : Sp := fun vs H Q _ => ∃ (a b : Addr) (k : Kd) (p : Pf), vs = [.ref a, .ref b] ∧ SpaceAt K H a k ∧ PfAt H b p ∧ Valid k p ∧ Q (.bl true) H
theorem sc_Space_is_prefix : FnScope ["self", "thing"] ["self", "thing"] d_Space_is_prefix.scope := ⟨rfl, rfl, rfl, by decide +kernel, rfl, by decide +kernel, by decide +kernel⟩
theorem ok_Space_is_prefix  (T : Tx K mg) : Ok P w K mg base 2 d_Space_is_prefix ["self", "thing"] (spIsPrefix K) := by
  refine T.at_Space_is_prefix.ok sc_Space_is_prefix (fun vs H Q E h => ?_) (fun _ _ _ _ _ _ us hl => match us, hl with | [_, _], _ => rfl) (fun cdv A outer s H vs Q E hr h => ?_)
  · obtain ⟨_, _, _, _, rfl, _⟩ := h; rfl
  · obtain ⟨a, b, k, p, rfl, hS, hp, v, q⟩ := h
    obtain ⟨dx, hS1⟩ := hS.2
    have kl := kinds_le hS.1
    have v1 := v.1
    refine ⟨_, pss_cons (ps_if (PW.pt (pw_or (pt_not (pt_val (pe_callB call_isi rfl T.f_isinstance (by decide +kernel) (pa_cons (pv 1) (pa_cons (pe_bltn rfl T.f_tuple (v := .ty "tuple") (by decide +kernel) rfl) pa_nil))))) (pw_or (pt_cmpR op_ne (pe_callB call_len_seq rfl T.f_len (by decide +kernel) (pa_cons (pv 1) pa_nil)) pe_int (nomark _)) (pw_or1 (pt_not (pt_val (pe_fc (ok_is_whole T) hr (by decide) rfl T.g_is_whole (pa_cons (pe_ix ix_tup (pv 1) pe_int (fun _ _ => rfl)) (pa_cons pe_int (pa_cons (pe_fld (pv 0) rfl) pa_nil)))))))))) (pss_one (ps_ret pe_bl)) (pss_nil)) (pss_one (ps_ret (pe_fc (ok_is_whole T) hr (by decide) rfl T.g_is_whole (pa_cons (pe_ix ix_tup (pv 1) pe_int (fun _ _ => rfl)) (pa_cons pe_int (pa_cons (pe_op op_sub (pe_fc (ok_power T) hr (by decide) rfl T.g_power (pa_cons (pe_ix ix_tup (pv 1) pe_int (fun _ _ => rfl)) pa_nil)) pe_int) pa_nil)))))), ?_⟩
    refine ⟨_, rfl, _, _, _, _, true, rfl, .ty "tuple", .base (.tup hp), kit_ty (by decide +kernel), true, rfl, iteF ?_⟩
    refine ⟨_, rfl, b, _, rfl, .inr hp.sq, rfl, _, rfl, ?_⟩
    refine iteNS rfl ?_
    have d1 : (decide ((0 : Int) ≤ (p.1 : Int)) && decide ((p.1 : Int) ≤ (k.D : Int))) = true := by rw [decide_eq_true (by omega), decide_eq_true (by omega)]; rfl
    have d2 : (decide ((0 : Int) ≤ (p.2 : Int)) && decide ((p.2 : Int) ≤ ((2 ^ p.1 : Nat) : Int) - 1)) = true := by
      have := v.2
      rw [decide_eq_true (by omega), decide_eq_true (by omega)]; rfl
    refine ⟨_, rfl, _, _, 0, _, rfl, rfl, hp.sq, atI_nat (j := 0) rfl, _, rfl, _, _, _, _, _, rfl, hS1, T.c_Space, T.n_Space_depth, lSpace_depth, _, _, _, rfl, true, congrArg V.bl d1, ?_⟩
    refine iteF ⟨_, rfl, _, _, 1, _, rfl, rfl, hp.sq, atI_nat (j := 1) rfl, _, rfl, _, _, 0, _, rfl, rfl, hp.sq, atI_nat (j := 0) rfl, p.1, rfl, by omega, _, _, rfl, rfl, _, _, _, rfl, ?_⟩
    rw [d2]
    exact q
end
end Fc

set_option Elab.async false
set_option autoImplicit false
set_option linter.all false
set_option maxRecDepth 100000
/-! Walks: the rests of a knowledge; its making. -/
namespace Fc
open PySem PySem.Spec PyProof.Rows L2
/-- a rest whose inner list is not at F -/
def RestN (K : PySem.W.Frag) (F : Addr) (H : Hp) (a : Addr) (x : RestV) : Prop :=
  ∃ dx pr inn, inn ≠ F ∧ H a = some (.ins (He.ga K "Rest") dx (flRest pr (cnV x.2.1) inn)) ∧ PfAt H pr x.1 ∧ PfsL H inn x.2.2
theorem RestN.at {K : PySem.W.Frag} {F : Addr} {H : Hp} {a : Addr} {x : RestV} : RestN K F H a x → RestAt K H a x := fun ⟨dx, pr, inn, _, h⟩ => ⟨dx, pr, inn, h⟩
theorem RestN.upd {K : PySem.W.Frag} {F : Addr} {H : Hp} {a : Addr} {x : RestV} {xs ys : List V} (h : H F = some (.lst xs)) : RestN K F H a x → RestN K F (upd H F (.lst ys)) a x := by
  rintro ⟨dx, pr, inn, ne, h1, h2, ⟨as, h3, h4⟩⟩
  have ne1 : a ≠ F := ne_of h1 h (by intro z; cases z)
  have e2 : H pr = some (.tup _) := h2
  have ne2 : pr ≠ F := ne_of e2 h (by intro z; cases z)
  refine ⟨dx, pr, inn, ne, by rw [upd_ne ne1]; exact h1, ?_, ⟨as, by rw [upd_ne ne]; exact h3, pfs_upd h h4⟩⟩
  show L2.upd H F _ pr = _
  rw [upd_ne ne2]
  exact h2
theorem RestN.same {K : PySem.W.Frag} {F : Addr} {H H' : Hp} {a : Addr} {x : RestV} (s : Same H H') : RestN K F H a x → RestN K F H' a x :=
  fun ⟨dx, pr, inn, ne, h1, h2, h3⟩ => ⟨dx, pr, inn, ne, s _ _ h1, h2.same s, h3.same s⟩
theorem paired_imp {α β : Type} {R S : α → β → Prop} (h : ∀ a b, R a b → S a b) : ∀ {as : List α} {bs : List β}, Paired R as bs → Paired S as bs
  | _, _, .nil => .nil
  | _, _, .cons k t => .cons (h _ _ k) (paired_imp h t)
section
variable {P : Program} {w : World} {K : PySem.W.Frag} {mg : Str → Option Value} {base : Heap}
def spRests (K : PySem.W.Frag) : Sp := fun vs H Q _ => ∃ (a : Addr) (k : Kd) (f : Nat → Bool) (fs : List Pf), vs = [.ref a] ∧ KnowAt K H a k f fs ∧ ∀ H' r, Same H H' → H r = none → RestsL K H' r (restsM k f fs) → Q (.ref r) H'
theorem sc_Knowledge_rests : FnScope ["self", "order", "found", "prefix"] ["self"] d_Knowledge_rests.scope := ⟨rfl, rfl, rfl, by decide +kernel, rfl, by decide +kernel, by decide +kernel⟩
theorem ok_Knowledge_rests  (T : Tx K mg) : Ok P w K mg base 4 d_Knowledge_rests ["self"] (spRests K) := by
  refine T.at_Knowledge_rests.ok sc_Knowledge_rests (fun vs H Q E h => ?_) (fun _ _ _ _ _ _ us hl => match us, hl with | [_], _ => rfl) (fun cdv A outer s H vs Q E hr h => ?_)
  · obtain ⟨_, _, _, _, rfl, _⟩ := h; rfl
  · obtain ⟨a, k, f, fs, rfl, hKn, q⟩ := h
    obtain ⟨dx, sp, d, hK, hS, hd, ok⟩ := id hKn
    have hu := hu_of hr
    have kl := kinds_le hS.1
    have l15 := ok.len hS.1
    refine ⟨_, pss_cons (ps_par (i := 1) (j := 2) (by rfl) sc_Knowledge_rests.nd rfl rfl (by decide) rfl rfl (pa_cons (pe_callB (cr_sortDict rfl hr.units) rfl T.f_sorted (by decide +kernel) (pa_cons (pe_fld (pv 0) rfl) pa_nil)) (pa_cons (pe_lst pa_nil) pa_nil)) (by rfl)) (pss_cons (ps_cut (ps_if (pt_cmp (pc_dnotin hu (pe_tup (pa_cons pe_int (pa_cons pe_int pa_nil))) (pe_fld (pv 0) rfl))) (pss_one (ps_expr (pe_bm PySem.F.plainAttrs_list PySem.F.slot_list_append PySem.F.type_list_append mt_append (pv 2) (pa_cons (pe_mk (ok_Rest_init T) hr (by decide) rfl T.g_Rest T.m_Rest (pa_cons (pe_tup (pa_cons pe_int (pa_cons pe_int pa_nil))) (pa_cons pe_non (pa_cons (pe_mc (pv 0) (ok_Knowledge_next_inside T) hr (by decide) T.c_Knowledge T.t_Knowledge_next_inside (pa_cons (pe_tup (pa_cons pe_int (pa_cons pe_int pa_nil))) (pa_cons (pv 1) pa_nil))) pa_nil)))) pa_nil)))) (pss_nil))) (pss_cons (ps_for PassesOwn.never rfl (pi_list (pv 1)) (pg_name (i := 3) sc_Knowledge_rests.nd rfl (Or.inl rfl)) (pss_one (ps_expr (pe_bm PySem.F.plainAttrs_list PySem.F.slot_list_append PySem.F.type_list_append mt_append (pv 2) (pa_cons (pe_mk (ok_Rest_init T) hr (by decide) rfl T.g_Rest T.m_Rest (pa_cons (pv 3) (pa_cons (pe_dget hu (pe_fld (pv 0) rfl) (pv 3) (fun _ _ => rfl)) (pa_cons (pe_mc (pv 0) (ok_Knowledge_next_inside T) hr (by decide) T.c_Knowledge T.t_Knowledge_next_inside (pa_cons (pv 3) (pa_cons (pv 1) pa_nil))) pa_nil)))) pa_nil))))) (pss_one (ps_ret (pv 2))))), ?_⟩
    refine ⟨_, rfl, _, _, _, _, _, rfl, hK, T.c_Knowledge, T.n_Knowledge_facts, lKnowledge_facts, d, _, fs.map fun p : Pf => ((p.1 : Int), (p.2 : Int)), rfl, .inl hd, ?_, fun os O hos hO => ?_⟩
    · unfold factD
      rw [List.map_map, List.map_map]
      rfl
    rw [ordM_pairs] at hos
    have hos' := pairsAt_pfs hos
    refine ⟨Nat.zero_le _, fun F hF => ⟨_, _, rfl, ?_⟩⟩
    have s1 : Same H (upd H O (.lst (os.map V.ref))) := Same.new hO
    have s2 : Same H (upd (upd H O (.lst (os.map V.ref))) F (.lst [])) := s1.trans (Same.new hF)
    have fF : H F = none := s1.free hF
    have hOs : ∀ {H'}, Same (upd (upd H O (.lst (os.map V.ref))) F (.lst [])) H' → H' O = some (.lst (os.map V.ref)) := fun s => s _ _ (by rw [upd_ne (fun e => by rw [← e, upd_same] at hF; cases hF)]; exact upd_same)
    have lo3 : ∀ q ∈ ordM fs, q.1 ≤ 3 := fun q hq => by have := (ok.2 q ((ordM_mem fs q).mp hq)).1; omega
    have lo15 : (ordM fs).length ≤ 15 := by rw [ordM_len]; exact l15
    have fresh : (upd (upd H O (.lst (os.map V.ref))) F (.lst [])) F = some (.lst []) := upd_same
    generalize hH2 : upd (upd H O (.lst (os.map V.ref))) F (.lst []) = H2 at *
    have hO2 : H2 O = some (.lst (os.map V.ref)) := hOs (Same.refl _)
    have nOF : O ≠ F := fun e => by rw [e] at hO2; rw [← hH2] at hO2; rw [← e] at hO2; rw [← e, upd_same] at hF; cases hF
    have s2' : Same H H2 := s2
    -- one more rest
    have add : ∀ (H3 H5 : Hp) (as : List Addr) (xs : List RestV) (x dx2 pr r : Addr) (p : Pf) (cn : Option Nat), Same H3 H5 → H3 F = some (.lst (as.map V.ref)) → Paired (RestN K F H3) as xs → r ≠ F → H5 x = some (.ins (He.ga K "Rest") dx2 (flRest pr (cnV cn) r)) → PfAt H5 pr p → PfsL H5 r (innM p (ordM fs)) →
        Paired (RestN K F (upd H5 F (.lst (as.map V.ref ++ [.ref x])))) (as ++ [x]) (xs ++ [(p, cn, innM p (ordM fs))]) := by
      intro H3 H5 as xs x dx2 pr r p cn s h3 hp ne h5 hpr hin
      have hF5 := s _ _ h3
      refine paired_snoc (paired_imp (fun a b h => RestN.upd hF5 (RestN.same s h)) hp) (RestN.upd hF5 ⟨dx2, pr, r, ne, h5, hpr, hin⟩)
    refine ⟨fun σ H3 => σ = [some (.ref a), some (.ref O), some (.ref F), none] ∧ Same H H3 ∧ H3 O = some (.lst (os.map V.ref)) ∧ (∃ as, H3 F = some (.lst (as.map V.ref)) ∧ Paired (RestN K F H3) as (if (0, 0) ∈ fs then [] else [((0, 0), none, innM (0, 0) (ordM fs))])) ∧ Paired (PfAt H3) os (ordM fs), ?_, ?_⟩
    · have hos2 : Paired (PfAt H2) os (ordM fs) := pfs_same s2 hos'
      refine ⟨two_line, fun t ht => ?_⟩
      have s3 := Same.new (o := .tup [.int 0, .int 0]) ht
      have ho : (upd H2 t (.tup [.int 0, .int 0])) t = some (.tup ((kN (0, 0)).map kV)) := upd_same
      have dg := DGet.t (s3 _ _ (s2 _ _ hd)) ho
      rw [valV_fact] at dg
      refine ⟨_, rfl, _, _, _, _, _, rfl, (s3 _ _ (s2 _ _ hK)), T.c_Knowledge, T.n_Knowledge_facts, lKnowledge_facts, d, _, rfl, dg, _, rfl, ?_⟩
      by_cases m : (0, 0) ∈ fs
      · rw [if_pos m, if_pos m]
        exact ⟨rfl, s2.trans s3, s3 _ _ hO2, ⟨[], s3 _ _ fresh, .nil⟩, pfs_same s3 hos2⟩
      · rw [if_neg m, if_neg m]
        refine iteT ?_
        refine ⟨_, rfl, .inl ⟨rfl, _, SqL.of (s3 _ _ fresh)⟩, two_line, fun t2 ht2 => ?_⟩
        have s4 := s3.trans (Same.new (o := .tup [.int 0, .int 0]) ht2)
        refine ⟨_, rfl, _, _, _, rfl, (s4 _ _ (s2 _ _ hK)), (by kernel_rfl), two_line, fun t3 ht3 => ?_⟩
        have s5 := s4.trans (Same.new (o := .tup [.int 0, .int 0]) ht3)
        have p2 : PfAt (upd (upd (upd H2 t (.tup [.int 0, .int 0])) t2 (.tup [.int 0, .int 0])) t3 (.tup [.int 0, .int 0])) t2 (0, 0) := Same.new ht3 _ _ upd_same
        refine ⟨_, rfl, a, t3, O, (0, 0), ordM fs, rfl, upd_same, ⟨os, s5 _ _ hO2, pfs_same s5 hos2⟩, lo3, lo15, fun H4 r s6 fr hr4 => ?_⟩
        refine fun x dx2 nx ndx nex => ⟨x, dx2, t2, r, .non, rfl, upd_same, fun H5 s7 h5 => ⟨rfl, ?_⟩⟩
        have s8 := s7.made nx ndx
        have s9 := s5.trans (s6.trans s8)
        have nrF : r ≠ F := fun e => by rw [e] at fr; rw [s5 _ _ fresh] at fr; cases fr
        refine ⟨F, _, _, rfl, rfl, s9 _ _ fresh, small8 (Nat.zero_le _), ?_⟩
        refine ⟨rfl, same_on (s2.trans s9) fF, by rw [upd_ne nOF]; exact s9 _ _ hO2, ⟨[x], upd_same, ?_⟩, pfs_upd (s9 _ _ fresh) (pfs_same s9 hos2)⟩
        exact add H2 H5 [] [] x dx2 t2 r (0, 0) none s9 fresh .nil nrF h5 (s8 _ _ (s6 _ _ p2)) (hr4.same s8)
    · rintro σ H3 ⟨rfl, s3, hO3, ⟨as0, hF3, hp3⟩, hos3⟩
      generalize hx0 : (if (0, 0) ∈ fs then ([] : List RestV) else [((0, 0), none, innM (0, 0) (ordM fs))]) = xs0 at *
      have lx0 : xs0.length ≤ 1 := by rw [← hx0]; split <;> simp
      refine ⟨_, rfl, O, rfl, ⟨_, SqL.of hO3⟩, ?_⟩
      refine for_list (xs := os.map V.ref) (fun i σ H4 => Same H H4 ∧ H4 O = some (.lst (os.map V.ref)) ∧ (∃ as, H4 F = some (.lst (as.map V.ref)) ∧ Paired (RestN K F H4) as (xs0 ++ ((ordM fs).take i).map fun p => (p, some (cntM k f p), innM p (ordM fs)))) ∧ Paired (PfAt H4) os (ordM fs) ∧ ∃ u, σ = [some (.ref a), some (.ref O), some (.ref F), u])
        ⟨s3, hO3, ⟨as0, hF3, by simpa using hp3⟩, hos3, none, rfl⟩ (fun i σ H4 _ ⟨_, h, _⟩ => SqL.of h) ?_ ?_
      · rintro i y σ H4 hy ⟨s4, hO4, ⟨as, hF4, hp4⟩, hos4, u, rfl⟩
        obtain ⟨g, hg, rfl⟩ := mapGet hy
        obtain ⟨p, hpo, hg1⟩ := paired_get hos4 hg
        have mp := (ordM_mem fs p).mp (List.mem_of_getElem? hpo)
        have dg := DGet.t (s4 _ _ hd) hg1.key
        rw [valV_fact, if_pos mp] at dg
        have lp := paired_len hp4
        rw [List.length_append, List.length_map, List.length_take] at lp
        have li := (List.getElem?_eq_some_iff.mp hpo).1
        refine ⟨_, rfl, .inl ⟨rfl, _, SqL.of hF4⟩, _, rfl, _, rfl, _, _, _, _, _, rfl, (s4 _ _ hK), T.c_Knowledge, T.n_Knowledge_facts, lKnowledge_facts, _, rfl, d, _, rfl, dg, _, rfl, _, _, _, rfl, (s4 _ _ hK), (by kernel_rfl), _, rfl, _, rfl, a, g, O, p, ordM fs, rfl, hg1, ⟨os, hO4, hos4⟩, lo3, lo15, fun H5 r s6 fr hr5 => ?_⟩
        refine fun x dx2 nx ndx nex => ⟨x, dx2, g, r, nV (cntM k f p), rfl, upd_same, fun H6 s7 h6 => ⟨rfl, ?_⟩⟩
        have s8 := s7.made nx ndx
        have s9 := s6.trans s8
        have nrF : r ≠ F := fun e => by rw [e] at fr; rw [hF4] at fr; cases fr
        refine ⟨F, _, _, rfl, rfl, s9 _ _ hF4, small8 (by rw [List.length_map]; omega), ?_⟩
        refine ⟨same_on (s4.trans s9) fF, by rw [upd_ne nOF]; exact s9 _ _ hO4, ⟨as ++ [x], by rw [List.map_append]; exact upd_same, ?_⟩, pfs_upd (s9 _ _ hF4) (pfs_same s9 hos4), some (.ref g), rfl⟩
        rw [takeGet hpo, List.map_append, ← List.append_assoc]
        exact add H4 H6 as _ x dx2 g r p (some (cntM k f p)) s9 hF4 hp4 nrF h6 (s9 _ _ hg1) (hr5.same s8)
      · rintro σ H4 ⟨s4, hO4, ⟨as, hF4, hp4⟩, hos4, u, rfl⟩
        rw [List.length_map, paired_len hos', List.take_length] at hp4
        refine ⟨_, rfl, q _ F s4 fF ⟨as, hF4, ?_⟩⟩
        unfold restsM
        rw [hx0]
        exact paired_imp (fun a b h => RestN.at h) hp4
end
end Fc

set_option Elab.async false
set_option autoImplicit false
set_option linter.all false
set_option maxRecDepth 100000
/-! The numbers of the rests, as the mathematics has them; finite facts of the tiny spaces. -/
namespace Fc
theorem valid_node {k : Kd} {p : Pf} : Valid k p ↔ p ∈ nodesTo k.D := by
  unfold Valid nodesTo
  rw [List.mem_flatMap]
  constructor
  · rintro ⟨h1, h2⟩
    exact ⟨p.1, List.mem_range.mpr (by omega), List.mem_map.mpr ⟨p.2, List.mem_range.mpr h2, rfl⟩⟩
  · rintro ⟨l, hl, h⟩
    obtain ⟨n, hn, rfl⟩ := List.mem_map.mp h
    exact ⟨by have := List.mem_range.mp hl; show l ≤ _; omega, List.mem_range.mp hn⟩
/-! ### order -/
theorem leN_trans (a b c : Pf) (h : leN a b = true) (g : leN b c = true) : leN a c = true := by
  have h := of_decide_eq_true h
  have g := of_decide_eq_true g
  refine decide_eq_true ?_
  omega
theorem leN_total (a b : Pf) : (leN a b || leN b a) = true := by
  unfold leN
  rw [Bool.or_eq_true, decide_eq_true_eq, decide_eq_true_eq]
  omega
theorem ordM_nodup {fs : List Pf} (h : fs.Nodup) : (ordM fs).Nodup := (List.mergeSort_perm fs leN).symm.nodup h
theorem ordM_sorted (fs : List Pf) : (ordM fs).Pairwise (fun a b => leN a b = true) := List.pairwise_mergeSort leN_trans leN_total fs
/-! ### counts of a rest -/
abbrev TM (k : Kd) (fs : List Pf) : Told := tF k.D (ordM fs)
theorem tM_iff {k : Kd} {fs : List Pf} (ok : FOk k fs) {p : Pf} : TM k fs (k.D - p.1) p.2 = true ↔ p.1 ≤ k.D ∧ p ∈ fs ∨ (¬ p.1 ≤ k.D ∧ (k.D, p.2) ∈ fs ∧ False) ∨ (¬ p.1 ≤ k.D ∧ TM k fs 0 p.2 = true) := by
  by_cases l : p.1 ≤ k.D
  · have e : k.D - (k.D - p.1) = p.1 := by omega
    unfold TM tF
    rw [Bool.and_eq_true, decide_eq_true_eq, decide_eq_true_eq, e, ordM_mem]
    constructor
    · rintro ⟨_, h⟩
      exact .inl ⟨l, h⟩
    · rintro (⟨_, h⟩ | ⟨h, _⟩ | ⟨h, _⟩)
      · exact ⟨by omega, h⟩
      · exact absurd l h
      · exact absurd l h
  · have e : k.D - p.1 = 0 := by omega
    rw [e]
    constructor
    · intro h
      exact .inr (.inr ⟨l, h⟩)
    · rintro (⟨h, _⟩ | ⟨_, _, h⟩ | ⟨_, h⟩)
      · exact absurd h l
      · exact h.elim
      · exact h
section
variable {k : Kd} {f : Nat → Bool} {fs : List Pf}
theorem sum_rest (ok : FOk k fs) {p : Pf} (hp : p.1 ≤ k.D) (g : Nat → Bool) : cR g (k.D - p.1) p.2 = cR (fun a => g a && fB (TM k fs) (k.D - p.1) a) (k.D - p.1) p.2 + ((innM p (ordM fs)).map fun q => cR g (k.D - q.1) q.2).sum :=
  sum_innM (ordM_nodup ok.1) (ordM_sorted fs) (fun q hq => (ok.2 q ((ordM_mem fs q).mp hq)).1) hp g
theorem left_eq (ok : FOk k fs) {p : Pf} (hp : p.1 ≤ k.D) : leftZ k f (cntM k f p) (innM p (ordM fs)) = (lQ f (TM k fs) (k.D - p.1) p.2 : Nat) := by
  have e := sum_rest ok hp f
  unfold leftZ lQ
  have e2 : (innM p (ordM fs)).map (cntM k f) = (innM p (ordM fs)).map fun q => cR f (k.D - q.1) q.2 := rfl
  rw [e2]
  show ((cR f (k.D - p.1) p.2 : Nat) : Int) - _ = _
  omega
theorem room_eq (ok : FOk k fs) {p : Pf} (hp : p.1 ≤ k.D) (c : Option Nat) : roomZ k (p, c, innM p (ordM fs)) = (rQ (TM k fs) (k.D - p.1) p.2 : Nat) := by
  have e := sum_rest ok hp (fun _ => true)
  have e1 : cR (fun _ => true) (k.D - p.1) p.2 = sizeM k p := cR_size _ _
  have e2 : ((innM p (ordM fs)).map fun q => cR (fun _ => true) (k.D - q.1) q.2) = (innM p (ordM fs)).map (sizeM k) := List.map_congr_left fun q _ => cR_size _ _
  have e3 : cR (fun a => true && fB (TM k fs) (k.D - p.1) a) (k.D - p.1) p.2 = rQ (TM k fs) (k.D - p.1) p.2 := cR_congr fun a _ => by rw [Bool.true_and]
  rw [e1, e2, e3] at e
  unfold roomZ
  show ((sizeM k p : Nat) : Int) - (((innM p (ordM fs)).map (sizeM k)).sum : Nat) = _
  omega
theorem fit_ok (ok : FOk k fs) {p : Pf} (hp : p.1 ≤ k.D) (c : Option Nat) : 0 ≤ leftZ k f (cntM k f p) (innM p (ordM fs)) ∧ leftZ k f (cntM k f p) (innM p (ordM fs)) ≤ roomZ k (p, c, innM p (ordM fs)) := by
  rw [left_eq ok hp, room_eq ok hp]
  have := lQ_le f (TM k fs) (k.D - p.1) p.2
  omega
end
theorem innM_sub (p : Pf) : ∀ (order found : List Pf), ∀ x ∈ order.foldl (innStep p) found, x ∈ order ∨ x ∈ found
  | [], found, x, h => .inr h
  | o :: order, found, x, h => by
    rcases innM_sub p order (innStep p found o) x h with m | m
    · exact .inl (List.mem_cons_of_mem _ m)
    · unfold innStep at m
      split at m
      · rcases List.mem_append.mp m with m | m
        · exact .inr m
        · rw [List.mem_singleton.mp m]
          exact .inl (List.mem_cons_self ..)
      · exact .inr m
theorem restsM_ok {k : Kd} (hk : k ∈ kinds) {f : Nat → Bool} {fs : List Pf} (ok : FOk k fs) : ∀ x ∈ restsM k f fs, RestOk k fs x ∧ x.2.2 = innM x.1 (ordM fs) ∧ (x.2.1 = none ∨ x.2.1 = some (cntM k f x.1)) := by
  have sub : ∀ p, (∀ q ∈ innM p (ordM fs), q ∈ fs) ∧ (innM p (ordM fs)).length ≤ 15 := fun p => by
    refine ⟨fun q hq => ?_, ?_⟩
    · rcases innM_sub p (ordM fs) [] q hq with m | m
      · exact (ordM_mem fs q).mp m
      · cases m
    · have := innM_len p (ordM fs) (ordM fs).length
      rw [List.take_length, ordM_len] at this
      exact Nat.le_trans this (ok.len hk)
  intro x hx
  unfold restsM at hx
  rcases List.mem_append.mp hx with m | m
  · split at m
    · cases m
    · rw [List.mem_singleton.mp m]
      exact ⟨⟨⟨Nat.zero_le _, Nat.one_pos⟩, (sub _).1, (sub _).2⟩, rfl, .inl rfl⟩
  · obtain ⟨p, mp, rfl⟩ := List.mem_map.mp m
    exact ⟨⟨ok.2 p ((ordM_mem fs p).mp mp), (sub p).1, (sub p).2⟩, rfl, .inr rfl⟩
/-! ### least and greatest -/
def leastZ (k : Kd) (f : Nat → Bool) (lo hi : List Nat) : List RestV → Int
  | [] => 0
  | x :: xs => (match x.2.1 with | none => 0 | some n => max 0 (leftZ k f n x.2.2 - (roomZ k x - inZ k lo hi x))) + leastZ k f lo hi xs
def greatZ (k : Kd) (f : Nat → Bool) (lo hi : List Nat) : List RestV → Int
  | [] => 0
  | x :: xs => (match x.2.1 with | none => inZ k lo hi x | some n => min (leftZ k f n x.2.2) (inZ k lo hi x)) + greatZ k f lo hi xs
theorem leastZ_app (k : Kd) (f : Nat → Bool) (lo hi : List Nat) : ∀ (xs : List RestV) (x : RestV), leastZ k f lo hi (xs ++ [x]) = leastZ k f lo hi xs + (match x.2.1 with | none => 0 | some n => max 0 (leftZ k f n x.2.2 - (roomZ k x - inZ k lo hi x)))
  | [], x => by simp [leastZ]
  | y :: xs, x => by
    show _ + leastZ k f lo hi (xs ++ [x]) = (_ + leastZ k f lo hi xs) + _
    rw [leastZ_app k f lo hi xs x, Int.add_assoc]
theorem greatZ_app (k : Kd) (f : Nat → Bool) (lo hi : List Nat) : ∀ (xs : List RestV) (x : RestV), greatZ k f lo hi (xs ++ [x]) = greatZ k f lo hi xs + (match x.2.1 with | none => inZ k lo hi x | some n => min (leftZ k f n x.2.2) (inZ k lo hi x))
  | [], x => by simp [greatZ]
  | y :: xs, x => by
    show _ + greatZ k f lo hi (xs ++ [x]) = (_ + greatZ k f lo hi xs) + _
    rw [greatZ_app k f lo hi xs x, Int.add_assoc]
/-! ### finite facts -/
def boxOkB (k : Kd) (lo hi : List Nat) : Bool := decide (lo.length = k.1) && (lo.all fun x => decide (x < 2 ^ k.2)) && (decide (hi.length = k.1) && (hi.all fun x => decide (x < 2 ^ k.2))) && ((List.range k.1).all fun i => decide (lo.getD i 0 ≤ hi.getD i 0))
theorem boxOkB_iff {k : Kd} {lo hi : List Nat} : boxOkB k lo hi = true ↔ BoxOk k lo hi := by
  unfold boxOkB BoxOk PtOk
  simp only [Bool.and_eq_true, decide_eq_true_eq, List.all_eq_true, List.mem_range]
  constructor
  · rintro ⟨⟨⟨h1, h2⟩, h3, h4⟩, h5⟩
    exact ⟨⟨h1, h2⟩, ⟨h3, h4⟩, h5⟩
  · rintro ⟨⟨h1, h2⟩, ⟨h3, h4⟩, h5⟩
    exact ⟨⟨⟨h1, h2⟩, h3, h4⟩, h5⟩
theorem cells_box : (kinds.all fun k => (nodesTo k.D).all fun p => boxOkB k (ptOf k (loN k p)) (ptOf k (hiN k p))) = true := by decide +kernel
theorem cell_boxOk {k : Kd} (hk : k ∈ kinds) {p : Pf} (v : Valid k p) : BoxOk k (ptOf k (loN k p)) (ptOf k (hiN k p)) :=
  boxOkB_iff.mp (List.all_eq_true.mp (List.all_eq_true.mp cells_box k hk) p (valid_node.mp v))
/-- the room of one cell within another -/
theorem cells_room : (kinds.all fun k => (nodesTo k.D).all fun q => (nodesTo k.D).all fun p => decide (roomM k (ptOf k (loN k q)) (ptOf k (hiN k q)) p = cR (fun a => decide (a / 2 ^ (k.D - q.1) = q.2)) (k.D - p.1) p.2)) = true := by decide +kernel
theorem cell_room {k : Kd} (hk : k ∈ kinds) {q p : Pf} (vq : Valid k q) (vp : Valid k p) : roomM k (ptOf k (loN k q)) (ptOf k (hiN k q)) p = cR (fun a => decide (a / 2 ^ (k.D - q.1) = q.2)) (k.D - p.1) p.2 :=
  of_decide_eq_true (List.all_eq_true.mp (List.all_eq_true.mp (List.all_eq_true.mp cells_room k hk) q (valid_node.mp vq)) p (valid_node.mp vp))
theorem in_eq {k : Kd} (hk : k ∈ kinds) {fs : List Pf} (ok : FOk k fs) {q p : Pf} (vq : Valid k q) (vp : Valid k p) (c : Option Nat) :
    inZ k (ptOf k (loN k q)) (ptOf k (hiN k q)) (p, c, innM p (ordM fs)) = (iQ (TM k fs) (k.D - q.1) q.2 (k.D - p.1) p.2 : Nat) := by
  have e := sum_rest ok vp.1 (fun a => decide (a / 2 ^ (k.D - q.1) = q.2))
  have e2 : ((innM p (ordM fs)).map fun q' => cR (fun a => decide (a / 2 ^ (k.D - q.1) = q.2)) (k.D - q'.1) q'.2) = (innM p (ordM fs)).map (roomM k (ptOf k (loN k q)) (ptOf k (hiN k q))) := List.map_congr_left fun q' hq' => by
    have m : q' ∈ fs := by
      rcases innM_sub p (ordM fs) [] q' hq' with m | m
      · exact (ordM_mem fs q').mp m
      · cases m
    exact (cell_room hk vq (ok.2 q' m)).symm
  rw [e2] at e
  unfold inZ iQ
  show ((roomM k _ _ p : Nat) : Int) - (((innM p (ordM fs)).map _).sum : Nat) = _
  rw [cell_room hk vq vp]
  omega
/-- least and greatest are the same -/
def KnownM (k : Kd) (f : Nat → Bool) (fs : List Pf) (q : Pf) : Prop := leastZ k f (ptOf k (loN k q)) (ptOf k (hiN k q)) (restsM k f fs) = greatZ k f (ptOf k (loN k q)) (ptOf k (hiN k q)) (restsM k f fs)
theorem sums_eq (k : Kd) (f : Nat → Bool) (lo hi : List Nat) : ∀ xs : List RestV, (∀ x ∈ xs, (x.2.1 = none → 0 ≤ inZ k lo hi x) ∧ ∀ n, x.2.1 = some n → 0 ≤ leftZ k f n x.2.2 ∧ leftZ k f n x.2.2 ≤ roomZ k x ∧ 0 ≤ inZ k lo hi x ∧ inZ k lo hi x ≤ roomZ k x) →
    (leastZ k f lo hi xs ≤ greatZ k f lo hi xs ∧ (leastZ k f lo hi xs = greatZ k f lo hi xs ↔ ∀ x ∈ xs, (x.2.1 = none → inZ k lo hi x = 0) ∧ ∀ n, x.2.1 = some n → leftZ k f n x.2.2 = 0 ∨ leftZ k f n x.2.2 = roomZ k x ∨ inZ k lo hi x = 0 ∨ inZ k lo hi x = roomZ k x))
  | [], _ => ⟨Int.le_refl _, ⟨fun _ x hx => (by cases hx), fun _ => rfl⟩⟩
  | x :: xs, h => by
    obtain ⟨ih1, ih2⟩ := sums_eq k f lo hi xs fun y hy => h y (List.mem_cons_of_mem _ hy)
    obtain ⟨h1, h2⟩ := h x (List.mem_cons_self ..)
    have key : ∀ (P : Prop), (P ↔ ((x.2.1 = none → inZ k lo hi x = 0) ∧ ∀ n, x.2.1 = some n → leftZ k f n x.2.2 = 0 ∨ leftZ k f n x.2.2 = roomZ k x ∨ inZ k lo hi x = 0 ∨ inZ k lo hi x = roomZ k x)) →
        ((P ∧ leastZ k f lo hi xs = greatZ k f lo hi xs) ↔ ∀ y ∈ x :: xs, (y.2.1 = none → inZ k lo hi y = 0) ∧ ∀ n, y.2.1 = some n → leftZ k f n y.2.2 = 0 ∨ leftZ k f n y.2.2 = roomZ k y ∨ inZ k lo hi y = 0 ∨ inZ k lo hi y = roomZ k y) := by
      intro P hP
      rw [hP, ih2]
      constructor
      · rintro ⟨a, b⟩ y hy
        rcases List.mem_cons.mp hy with e | hy
        · rw [e]; exact a
        · exact b y hy
      · intro a
        exact ⟨a x (List.mem_cons_self ..), fun y hy => a y (List.mem_cons_of_mem _ hy)⟩
    show (_ + leastZ k f lo hi xs ≤ _ + greatZ k f lo hi xs) ∧ (_ + leastZ k f lo hi xs = _ + greatZ k f lo hi xs ↔ _)
    cases e : x.2.1 with
    | none =>
      have a := h1 e
      refine ⟨by show (0 : Int) + _ ≤ inZ k lo hi x + _; omega, ?_⟩
      rw [← key (inZ k lo hi x = 0) ⟨fun z => ⟨fun _ => z, fun n en => (by rw [e] at en; cases en)⟩, fun z => z.1 e⟩]
      show (0 : Int) + _ = inZ k lo hi x + _ ↔ _
      omega
    | some n =>
      obtain ⟨b1, b2, b3, b4⟩ := h2 n e
      refine ⟨by show max 0 (leftZ k f n x.2.2 - (roomZ k x - inZ k lo hi x)) + _ ≤ min (leftZ k f n x.2.2) (inZ k lo hi x) + _; omega, ?_⟩
      rw [← key (leftZ k f n x.2.2 = 0 ∨ leftZ k f n x.2.2 = roomZ k x ∨ inZ k lo hi x = 0 ∨ inZ k lo hi x = roomZ k x) ⟨fun z => ⟨fun en => (by rw [e] at en; cases en), fun m em => (by rw [e] at em; cases em; exact z)⟩, fun z => z.2 n e⟩]
      show max 0 (leftZ k f n x.2.2 - (roomZ k x - inZ k lo hi x)) + _ = min (leftZ k f n x.2.2) (inZ k lo hi x) + _ ↔ _
      omega
/-- a cell is known exactly if each rest tells -/
theorem knownM_iff {k : Kd} (hk : k ∈ kinds) {f : Nat → Bool} {fs : List Pf} (ok : FOk k fs) {q : Pf} (vq : Valid k q) :
    KnownM k f fs q ↔ ((TM k fs k.D 0 = false → iQ (TM k fs) (k.D - q.1) q.2 k.D 0 = 0) ∧ ∀ h n, Ins k.D 0 h n → TM k fs h n = true → TellsQ f (TM k fs) (k.D - q.1) q.2 h n) := by
  have rok := restsM_ok hk (f := f) ok
  have num : ∀ x ∈ restsM k f fs, x.1.1 ≤ k.D ∧ roomZ k x = (rQ (TM k fs) (k.D - x.1.1) x.1.2 : Nat) ∧ inZ k (ptOf k (loN k q)) (ptOf k (hiN k q)) x = (iQ (TM k fs) (k.D - q.1) q.2 (k.D - x.1.1) x.1.2 : Nat) ∧ ∀ n, x.2.1 = some n → leftZ k f n x.2.2 = (lQ f (TM k fs) (k.D - x.1.1) x.1.2 : Nat) := by
    intro x hx
    obtain ⟨⟨v, _⟩, e1, e2⟩ := rok x hx
    obtain ⟨p, c, inn⟩ := x
    obtain rfl : inn = innM p (ordM fs) := e1
    refine ⟨v.1, room_eq ok v.1 c, in_eq hk ok vq v c, fun n en => ?_⟩
    rcases e2 with e2 | e2
    · rw [en] at e2; cases e2
    · rw [en] at e2
      cases e2
      exact left_eq ok v.1
  unfold KnownM
  rw [(sums_eq k f _ _ (restsM k f fs) fun x hx => by
    obtain ⟨n0, n1, n2, n3⟩ := num x hx
    refine ⟨fun _ => by rw [n2]; omega, fun n en => ?_⟩
    rw [n3 n en, n1, n2]
    have := lQ_le f (TM k fs) (k.D - x.1.1) x.1.2
    have := iQ_le (TM k fs) (k.D - q.1) q.2 (k.D - x.1.1) x.1.2
    omega).2]
  constructor
  · intro a
    refine ⟨fun t => ?_, fun h n i t => ?_⟩
    · have nm : (0, 0) ∉ fs := fun m => by
        have : TM k fs k.D 0 = true := by
          unfold TM tF
          rw [Nat.sub_self, Bool.and_eq_true, decide_eq_true_eq, decide_eq_true_eq, ordM_mem]
          exact ⟨Nat.le_refl _, m⟩
        rw [this] at t
        cases t
      have mx : ((0, 0), none, innM (0, 0) (ordM fs)) ∈ restsM k f fs := by
        unfold restsM
        rw [if_neg nm]
        exact List.mem_append_left _ (List.mem_singleton.mpr rfl)
      have z := (a _ mx).1 rfl
      rw [(num _ mx).2.2.1] at z
      have z' : iQ (TM k fs) (k.D - q.1) q.2 (k.D - 0) 0 = 0 := by
        have : ((iQ (TM k fs) (k.D - q.1) q.2 (k.D - 0) 0 : Nat) : Int) = 0 := z
        omega
      exact z'
    · have t' := t
      unfold TM tF at t'
      rw [Bool.and_eq_true, decide_eq_true_eq, decide_eq_true_eq] at t'
      have mx : ((k.D - h, n), some (cntM k f (k.D - h, n)), innM (k.D - h, n) (ordM fs)) ∈ restsM k f fs := List.mem_append_right _ (List.mem_map.mpr ⟨_, t'.2, rfl⟩)
      have z := (a _ mx).2 _ rfl
      obtain ⟨n0, n1, n2, n3⟩ := num _ mx
      rw [n3 _ rfl, n1, n2] at z
      have eh : k.D - (k.D - h) = h := by omega
      have z' : (((lQ f (TM k fs) (k.D - (k.D - h)) n : Nat) : Int) = 0 ∨ ((lQ f (TM k fs) (k.D - (k.D - h)) n : Nat) : Int) = ((rQ (TM k fs) (k.D - (k.D - h)) n : Nat) : Int) ∨ ((iQ (TM k fs) (k.D - q.1) q.2 (k.D - (k.D - h)) n : Nat) : Int) = 0 ∨ ((iQ (TM k fs) (k.D - q.1) q.2 (k.D - (k.D - h)) n : Nat) : Int) = ((rQ (TM k fs) (k.D - (k.D - h)) n : Nat) : Int)) := z
      rw [eh] at z'
      unfold TellsQ
      omega
  · rintro ⟨a, b⟩ x hx
    obtain ⟨n0, n1, n2, n3⟩ := num x hx
    have hx' := hx
    unfold restsM at hx'
    rcases List.mem_append.mp hx' with m | m
    · split at m
      · cases m
      · rename_i nm
        have t : TM k fs k.D 0 = false := by
          cases t : TM k fs k.D 0 with
          | false => rfl
          | true =>
            unfold TM tF at t
            rw [Nat.sub_self, Bool.and_eq_true, decide_eq_true_eq, decide_eq_true_eq, ordM_mem] at t
            exact absurd t.2 nm
        have z := a t
        rw [List.mem_singleton.mp m] at n2 ⊢
        refine ⟨fun _ => ?_, fun n en => (by cases en)⟩
        rw [n2]
        have z' : iQ (TM k fs) (k.D - q.1) q.2 (k.D - 0) 0 = 0 := z
        show ((iQ (TM k fs) (k.D - q.1) q.2 (k.D - 0) 0 : Nat) : Int) = 0
        omega
    · obtain ⟨p, mp, rfl⟩ := List.mem_map.mp m
      have v := ok.2 p ((ordM_mem fs p).mp mp)
      refine ⟨fun en => (by cases en), fun n en => ?_⟩
      rw [n3 n en, n1, n2]
      have t : TM k fs (k.D - p.1) p.2 = true := by
        have e : k.D - (k.D - p.1) = p.1 := by have := v.1; omega
        unfold TM tF
        rw [Bool.and_eq_true, decide_eq_true_eq, decide_eq_true_eq, e]
        exact ⟨by omega, mp⟩
      have i : Ins k.D 0 (k.D - p.1) p.2 := by
        refine ⟨by omega, ?_⟩
        have e : k.D - (k.D - p.1) = p.1 := by have := v.1; omega
        rw [e]
        exact Nat.div_eq_of_lt v.2
      have z := b _ _ i t
      unfold TellsQ at z
      show (((lQ f (TM k fs) (k.D - p.1) p.2 : Nat) : Int) = 0 ∨ ((lQ f (TM k fs) (k.D - p.1) p.2 : Nat) : Int) = ((rQ (TM k fs) (k.D - p.1) p.2 : Nat) : Int) ∨ ((iQ (TM k fs) (k.D - q.1) q.2 (k.D - p.1) p.2 : Nat) : Int) = 0 ∨ ((iQ (TM k fs) (k.D - q.1) q.2 (k.D - p.1) p.2 : Nat) : Int) = ((rQ (TM k fs) (k.D - p.1) p.2 : Nat) : Int))
      omega
end Fc

set_option Elab.async false
set_option autoImplicit false
set_option linter.all false
set_option maxRecDepth 100000
/-! The hashes of the nodes of the tiny spaces: all unlike. -/
namespace Fc
open PySem PySem.Spec PyProof.Rows L2
def pI (p : Pf) : Int × Int := ((p.1 : Int), (p.2 : Int))
theorem hash_list : ((nodesTo 3).map fun p => (hashP (pI p) % 44).toNat) = [27, 40, 26, 28, 33, 3, 36, 31, 20, 34, 39, 9, 42, 15, 17] := by kernel_rfl
theorem inj_of_nodup {α β : Type} {g : α → β} : ∀ {xs : List α}, (xs.map g).Nodup → ∀ a ∈ xs, ∀ b ∈ xs, g a = g b → a = b
  | [], _, a, ha, _, _, _ => by cases ha
  | x :: xs, nd, a, ha, b, hb, e => by
    rw [List.map_cons, List.nodup_cons] at nd
    rcases List.mem_cons.mp ha with e1 | ha
    · rcases List.mem_cons.mp hb with e2 | hb
      · rw [e1, e2]
      · rw [e1] at e
        exact absurd (List.mem_map.mpr ⟨b, hb, e.symm⟩) nd.1
    · rcases List.mem_cons.mp hb with e2 | hb
      · rw [e2] at e
        exact absurd (List.mem_map.mpr ⟨a, ha, e⟩) nd.1
      · exact inj_of_nodup nd.2 a ha b hb e

theorem small_nd : ([27, 40, 26, 28, 33, 3, 36, 31, 20, 34, 39, 9, 42, 15, 17] : List Nat).Nodup := by decide
def gH (p : Pf) : Nat := (hashP (pI p) % 44).toNat
theorem gH_nd : ((nodesTo 3).map gH).Nodup := by
  have e : (nodesTo 3).map gH = [27, 40, 26, 28, 33, 3, 36, 31, 20, 34, 39, 9, 42, 15, 17] := hash_list
  rw [e]
  exact small_nd
theorem hash_nodes : ∀ a ∈ nodesTo 3, ∀ b ∈ nodesTo 3, hashP (pI a) = hashP (pI b) → a = b := by
  intro a ha b hb e
  refine inj_of_nodup gH_nd a ha b hb ?_
  unfold gH
  rw [e]
end Fc

set_option Elab.async false
set_option autoImplicit false
set_option linter.all false
set_option maxRecDepth 100000
/-! Walks: the making of a knowledge, its bounds. -/
namespace Fc
open PySem PySem.Spec PyProof.Rows L2
theorem node3 {k : Kd} (hk : k ∈ kinds) {p : Pf} (v : Valid k p) : p ∈ nodesTo 3 := by
  have l := kinds_le hk
  have v1 := v.1
  exact List.mem_flatMap.mpr ⟨p.1, List.mem_range.mpr (by omega), List.mem_map.mpr ⟨p.2, List.mem_range.mpr v.2, rfl⟩⟩
theorem hash_nodup {k : Kd} (hk : k ∈ kinds) {fs : List Pf} (ok : FOk k fs) : ((fs.map pI).map hashP).Nodup := by
  have h : (fs.map pI).Pairwise fun x y => ¬ (hashP x = hashP y) := by
    refine List.Pairwise.map (R := fun a b : Pf => a ∈ fs ∧ b ∈ fs ∧ a ≠ b) pI (fun a b r e => ?_) ?_
    · exact r.2.2 (hash_nodes a (node3 hk (ok.2 a r.1)) b (node3 hk (ok.2 b r.2.1)) e)
    · exact List.Pairwise.imp_of_mem (fun {a b} ha hb r => ⟨ha, hb, r⟩) ok.1
  exact List.Pairwise.map (S := fun x y : Int => ¬ (x = y)) hashP (fun a b r => r) h
theorem cnt_le (k : Kd) (f : Nat → Bool) (p : Pf) : cntM k f p ≤ 2 ^ (k.D - p.1) := by
  have h : cR f (k.D - p.1) p.2 ≤ cR (fun _ => true) (k.D - p.1) p.2 := cR_le fun _ _ _ => rfl
  rw [cR_size] at h
  exact h
theorem same_lock {H H' : Hp} {d : Addr} {u : HO} {o : Obj} (hd : H d = some u) (s : Same (upd H d (.frz o u)) H') : Same H (upd H' d u) := fun b z e => by
  by_cases q : b = d
  · subst q
    rw [upd_same, ← hd, e]
  · rw [upd_ne q]
    exact s b z (by rw [upd_ne q]; exact e)
theorem factD_get {k : Kd} {f : Nat → Bool} {fs : List Pf} {i : Nat} {k0 : List Key} {v : V} (h : (factD k f fs)[i]? = some (k0, v)) : ∃ p, fs[i]? = some p ∧ k0 = kN p ∧ v = nV (cntM k f p) := by
  obtain ⟨p, hp, e⟩ := mapGet h
  cases e
  exact ⟨p, hp, rfl, rfl⟩
theorem factD_keys (k : Kd) (f : Nat → Bool) (fs : List Pf) : (factD k f fs).map (·.1) = (fs.map pI).map kP := by
  unfold factD
  rw [List.map_map, List.map_map]
  rfl
section
variable {P : Program} {w : World} {K : PySem.W.Frag} {mg : Str → Option Value} {base : Heap}
def spKnowInit (K : PySem.W.Frag) : Sp := fun vs H Q _ => ∃ (p dx sp d : Addr) (k : Kd) (f : Nat → Bool) (fs : List Pf), vs = [.ref p, .ref sp, .ref d] ∧ SpaceAt K H sp k ∧ H d = some (.dT (factD k f fs)) ∧ FOk k fs ∧ H p = some (.ins (He.ga K "Knowledge") dx []) ∧
  ∀ H' d', SameX p H H' → H' d' = some (.dT (factD k f fs)) → H' p = some (.ins (He.ga K "Knowledge") dx (flKnowledge sp d')) → Q .non H'
theorem sc_Knowledge_init : FnScope ["self", "space", "facts", "prefix", "count", "rest"] ["self", "space", "facts"] d_Knowledge_init.scope := ⟨rfl, rfl, rfl, by decide +kernel, rfl, by decide +kernel, by decide +kernel⟩
theorem ok_Knowledge_init  (T : Tx K mg) : Ok P w K mg base 6 d_Knowledge_init ["self", "space", "facts"] (spKnowInit K) := by
  refine T.at_Knowledge_init.ok sc_Knowledge_init (fun vs H Q E h => ?_) (fun _ _ _ _ _ _ us hl => match us, hl with | [_, _, _], _ => rfl) (fun cdv A outer s H vs Q E hr h => ?_)
  · obtain ⟨_, _, _, _, _, _, _, rfl, _⟩ := h; rfl
  · obtain ⟨p, dx, sp, d, k, f, fs, rfl, hS, hd, ok, hp, q⟩ := h
    obtain ⟨dx1, hS1⟩ := hS.2
    refine ⟨_, pss_cons (ps_fld (pv 0) (pv 1) rfl) (pss_cons (ps_cut (ps_lock (ps_for PassesOwn.never rfl (pi_itemsT (pv 2)) (pg_tup rfl (pgs_cons (pg_name (i := 3) sc_Knowledge_init.nd rfl (Or.inl rfl)) (pgs_cons (pg_name (i := 4) sc_Knowledge_init.nd rfl (Or.inl rfl)) pgs_nil))) (pss_one (ps_if (PW.pt (pw_or (pt_not (pt_val (pe_mc (pv 1) (ok_Space_is_prefix T) hr (by decide) T.c_Space T.t_Space_is_prefix (pa_cons (pv 3) pa_nil)))) (pw_or1 (pt_not (pt_val (pe_fc (ok_is_whole T) hr (by decide) rfl T.g_is_whole (pa_cons (pv 4) (pa_cons pe_int (pa_cons (pe_mc (pv 1) (ok_Space_size T) hr (by decide) T.c_Space T.t_Space_size (pa_cons (pv 3) pa_nil)) pa_nil))))))))) (pss_never) (pss_nil)))))) (pss_cons (ps_fld (pv 0) (pe_callTy (call_dictT hr.units) rfl T.f_dict (by decide +kernel) (pa_cons (pv 2) pa_nil)) rfl) (pss_one (ps_for PassesOwn.never rfl (pi_list (pe_mc0 (pv 0) (ok_Knowledge_rests T) hr (by decide) T.c_Knowledge T.t_Knowledge_rests)) (pg_name (i := 5) sc_Knowledge_init.nd rfl (Or.inl rfl)) (pss_one (ps_if (pt_not (pt_val (pe_mc (pv 0) (ok_Knowledge_is_fit T) hr (by decide) T.c_Knowledge T.t_Knowledge_is_fit (pa_cons (pv 5) pa_nil)))) (pss_never) (pss_nil))))))), ?_⟩
    refine ⟨_, rfl, _, rfl, p, _, dx, [], rfl, hp, T.c_Knowledge, T.n_Knowledge_space, (by decide), ?_⟩
    rw [pKnowledge_space]
    have nsp : sp ≠ p := fun e => by
      rw [e, hp] at hS1
      injection hS1 with e1
      injection e1 with _ _ e2
      cases e2
    have ndp : d ≠ p := ne_of hd hp (by intro z; cases z)
    generalize hHa : upd H p (.ins (He.ga K "Knowledge") dx [("space", .ref sp)]) = Ha
    have sxa : SameX p H Ha := by rw [← hHa]; exact SameX.upd
    have hda : Ha d = some (.dT (factD k f fs)) := sxa _ _ ndp hd
    have hpa : Ha p = some (.ins (He.ga K "Knowledge") dx [("space", .ref sp)]) := by rw [← hHa]; exact upd_same
    have hSa : SpaceAt K Ha sp k := ⟨hS.1, dx1, sxa _ _ nsp hS1⟩
    refine ⟨fun σ H2 => Same Ha H2 ∧ ∃ u v, σ = [some (.ref p), some (.ref sp), some (.ref d), u, v, none], ?_, ?_⟩
    · refine ⟨d, _, hda, trivial, fun od => ⟨_, rfl, d, od, _, rfl, upd_same, ?_⟩⟩
      have sb : ∀ {b : Addr} {o : HO}, b ≠ d → Ha b = some o → (upd Ha d (.frz od (.dT (factD k f fs)))) b = some o := fun n e => by rw [upd_ne n]; exact e
      have nsd : sp ≠ d := fun e => by
        obtain ⟨dx2, h2⟩ := hSa.2
        rw [e, hda] at h2
        cases h2
      have hSb : SpaceAt K (upd Ha d (.frz od (.dT (factD k f fs)))) sp k := ⟨hSa.1, hSa.2.imp fun _ e => sb nsd e⟩
      refine for_it walk_itemsT (fun i σ H3 => Same (upd Ha d (.frz od (.dT (factD k f fs)))) H3 ∧ ∃ u v, σ = [some (.ref p), some (.ref sp), some (.ref d), u, v, none]) ⟨Same.refl _, none, none, rfl⟩ (fun i σ H3 _ ⟨s3, _⟩ => s3 _ _ upd_same) ?_ ?_
      · rintro i x σ H3 H4 hi ⟨s3, u, v, rfl⟩ ⟨t, g, k0, v0, e0, rfl, hg, ht, rfl⟩
        obtain ⟨p0, hp0, rfl, rfl⟩ := factD_get e0
        have v0 := ok.2 p0 (List.mem_of_getElem? hp0)
        have s4 := Same.new (o := .tup [.ref g, nV (cntM k f p0)]) ht
        have s34 := s3.trans s4
        have hg' : PfAt (upd H3 t (.tup [.ref g, nV (cntM k f p0)])) g p0 := s4 _ _ hg
        have hS4 := hSb.same s34
        obtain ⟨dx4, hS5⟩ := hS4.2
        refine ⟨t, _, rfl, SqT.of upd_same, rfl, _, _, rfl, _, _, rfl, rfl, ?_⟩
        refine ⟨_, rfl, _, _, _, rfl, hS5, (by kernel_rfl), _, rfl, sp, g, k, p0, rfl, hS4, hg', v0, true, rfl, iteF ?_⟩
        have dd : (decide ((0 : Int) ≤ (cntM k f p0 : Int)) && decide ((cntM k f p0 : Int) ≤ ((2 ^ (k.D - p0.1) : Nat) : Int))) = true := by
          have := cnt_le k f p0
          rw [decide_eq_true (by omega), decide_eq_true (by omega)]
          rfl
        refine ⟨_, rfl, _, rfl, _, _, _, rfl, hS5, (by kernel_rfl), _, rfl, sp, g, k, p0, rfl, hS4, hg', v0.1, _, _, _, rfl, true, congrArg V.bl dd, ?_⟩
        exact ⟨s34, some (.ref g), some (nV (cntM k f p0)), rfl⟩
      · rintro σ H3 ⟨s3, u, v, rfl⟩
        exact ⟨s3 _ _ upd_same, same_lock hda s3, u, v, rfl⟩
    · rintro σ H2 ⟨s2, u, v, rfl⟩
      have hd2 := s2 _ _ hda
      refine ⟨_, rfl, d, _, fs.map pI, rfl, .inl hd2, factD_keys k f fs, hash_nodup hS.1 ok, fun d' hd' => ?_⟩
      have s3 := s2.trans (Same.new (o := .dT (factD k f fs)) hd')
      have hp3 := s3 _ _ hpa
      have nd' : d' ≠ p := fun e => by rw [e, s2 _ _ hpa] at hd'; cases hd'
      refine ⟨_, rfl, p, _, dx, _, rfl, hp3, T.c_Knowledge, T.n_Knowledge_facts, (by show 1 < 1000; decide), ?_⟩
      have nsp3 := nsp
      have hK : KnowAt K (upd (upd H2 d' (.dT (factD k f fs))) p (.ins (He.ga K "Knowledge") dx (putF "facts" (.ref d') [("space", .ref sp)]))) p k f fs := by
        obtain ⟨dx4, hS5⟩ := (hSa.same s3).2
        refine ⟨dx, sp, d', upd_same.trans (congrArg (fun l => some (HO.ins _ dx l)) (pKnowledge_facts _ _)), ⟨hS.1, dx4, by rw [upd_ne nsp]; exact hS5⟩, by rw [upd_ne nd']; exact upd_same, ok⟩
      obtain ⟨dxk, spk, dk, hKi, _⟩ := id hK
      have rok := restsM_ok hS.1 (f := f) ok
      refine ⟨_, rfl, _, _, _, rfl, hKi, (by kernel_rfl), p, k, f, fs, rfl, hK, fun H5 r s5 fr ⟨as, hr5, has⟩ => ⟨r, rfl, ⟨_, SqL.of hr5⟩, ?_⟩⟩
      refine for_list (xs := as.map V.ref) (fun i σ H6 => Same H5 H6 ∧ ∃ w', σ = [some (.ref p), some (.ref sp), some (.ref d), u, v, w']) ⟨Same.refl _, none, rfl⟩ (fun i σ H6 _ ⟨s6, _⟩ => SqL.of (s6 _ _ hr5)) ?_ ?_
      · rintro i y σ H6 hy ⟨s6, w', rfl⟩
        obtain ⟨g, hg, rfl⟩ := mapGet hy
        obtain ⟨x, hx, hgx⟩ := paired_get has hg
        obtain ⟨ro, e1, e2⟩ := rok x (List.mem_of_getElem? hx)
        obtain ⟨dxr, prr, innr, hri, _⟩ := id (hgx.same s6)
        refine ⟨_, rfl, _, _, _, rfl, (s6 _ _ (s5 _ _ hKi)), (by kernel_rfl), _, rfl, p, g, k, f, fs, x, rfl, (hK.same s5).same s6, hgx.same s6, ro, fun n en => ?_, fun H7 s7 => ⟨true, rfl, iteF ⟨s6.trans s7, some (.ref g), rfl⟩⟩⟩
        have ef : n = cntM k f x.1 := by
          rcases e2 with e2 | e2
          · rw [en] at e2; cases e2
          · rw [en] at e2; exact Option.some.inj e2
        have := fit_ok (f := f) ok ro.1.1 x.2.1
        rw [ef, e1]
        obtain ⟨xp, xc, xi⟩ := x
        obtain rfl : xi = innM xp (ordM fs) := e1
        exact this
      · rintro σ H6 ⟨s6, w', rfl⟩
        refine q H6 d' (fun b o n e => s6 _ _ (s5 _ _ (by rw [upd_ne n]; exact s3 _ _ (sxa _ _ n e)))) (s6 _ _ (s5 _ _ (by rw [upd_ne nd']; exact upd_same))) (s6 _ _ (s5 _ _ (upd_same.trans (congrArg (fun l => some (HO.ins _ dx l)) (pKnowledge_facts _ _)))))
end
end Fc

set_option Elab.async false
set_option autoImplicit false
set_option linter.all false
set_option maxRecDepth 100000
/-! Finite facts of the tiny spaces: boxes, numbers of points. -/
namespace Fc
def allPts (side : Nat) : Nat → List (List Nat)
  | 0 => [[]]
  | d + 1 => (allPts side d).flatMap fun r => (List.range side).map fun x => r ++ [x]
theorem mem_allPts {side : Nat} : ∀ {d : Nat} {pt : List Nat}, pt ∈ allPts side d ↔ pt.length = d ∧ ∀ x ∈ pt, x < side
  | 0, pt => by
    show pt ∈ [[]] ↔ _
    rw [List.mem_singleton]
    constructor
    · rintro rfl
      exact ⟨rfl, fun x hx => by cases hx⟩
    · rintro ⟨h, _⟩
      exact List.length_eq_zero_iff.mp h
  | d + 1, pt => by
    show pt ∈ (allPts side d).flatMap _ ↔ _
    rw [List.mem_flatMap]
    constructor
    · rintro ⟨r, hr, h⟩
      obtain ⟨x, hx, rfl⟩ := List.mem_map.mp h
      obtain ⟨h1, h2⟩ := mem_allPts.mp hr
      refine ⟨by simp [h1], fun y hy => ?_⟩
      rcases List.mem_append.mp hy with m | m
      · exact h2 y m
      · rw [List.mem_singleton.mp m]
        exact List.mem_range.mp hx
    · rintro ⟨h1, h2⟩
      have ne : pt ≠ [] := fun e => by rw [e] at h1; cases h1
      refine ⟨pt.dropLast, mem_allPts.mpr ⟨by simp [h1], fun x hx => h2 x (List.dropLast_subset pt hx)⟩, List.mem_map.mpr ⟨pt.getLast ne, List.mem_range.mpr (h2 _ (List.getLast_mem ne)), List.dropLast_concat_getLast ne⟩⟩
def ptsK (k : Kd) : List (List Nat) := allPts (2 ^ k.2) k.1
theorem mem_ptsK {k : Kd} {pt : List Nat} : pt ∈ ptsK k ↔ PtOk k pt := mem_allPts
/-- a node has room exactly if one of its halves has -/
theorem halves_room : (kinds.all fun k => (ptsK k).all fun lo => (ptsK k).all fun hi => !boxOkB k lo hi || (nodesTo (k.D - 1)).all fun p => decide (0 < roomM k lo hi p) == (decide (0 < roomM k lo hi (p.1 + 1, 2 * p.2)) || decide (0 < roomM k lo hi (p.1 + 1, 2 * p.2 + 1)))) = true := by decide +kernel
theorem half_room {k : Kd} (hk : k ∈ kinds) {lo hi : List Nat} (b : BoxOk k lo hi) {p : Pf} (v : Valid k p) (l : p.1 < k.D) : 0 < roomM k lo hi p ↔ 0 < roomM k lo hi (p.1 + 1, 2 * p.2) ∨ 0 < roomM k lo hi (p.1 + 1, 2 * p.2 + 1) := by
  have h := List.all_eq_true.mp (List.all_eq_true.mp (List.all_eq_true.mp halves_room k hk) lo (mem_ptsK.mpr b.1)) hi (mem_ptsK.mpr b.2.1)
  rw [boxOkB_iff.mpr b, Bool.not_true, Bool.false_or] at h
  have m : p ∈ nodesTo (k.D - 1) := List.mem_flatMap.mpr ⟨p.1, List.mem_range.mpr (by omega), List.mem_map.mpr ⟨p.2, List.mem_range.mpr v.2, rfl⟩⟩
  have h2 := List.all_eq_true.mp h p m
  have h3 := eq_of_beq h2
  rw [Bool.eq_iff_iff, Bool.or_eq_true, decide_eq_true_eq, decide_eq_true_eq, decide_eq_true_eq] at h3
  exact h3
/-- the numbers of the points: all of them, each once -/
theorem woven_all : (kinds.all fun k => decide (((ptsK k).map (wv k)).Nodup) && ((ptsK k).all fun pt => decide (wv k pt < 2 ^ k.D)) && decide ((ptsK k).length = 2 ^ k.D)) = true := by decide +kernel
theorem woven_facts {k : Kd} (hk : k ∈ kinds) : ((ptsK k).map (wv k)).Nodup ∧ (∀ pt ∈ ptsK k, wv k pt < 2 ^ k.D) ∧ (ptsK k).length = 2 ^ k.D := by
  have h := List.all_eq_true.mp woven_all k hk
  rw [Bool.and_eq_true, Bool.and_eq_true, decide_eq_true_eq, decide_eq_true_eq, List.all_eq_true] at h
  exact ⟨h.1.1, fun pt hp => of_decide_eq_true (h.1.2 pt hp), h.2⟩
end Fc

set_option Elab.async false
set_option autoImplicit false
set_option linter.all false
set_option maxRecDepth 100000
/-! Walks: bounds, what is known, is_enough. -/
namespace Fc
open PySem PySem.Spec PyProof.Rows L2
/-! ### rows of nodes as data -/
theorem canLay_pfs : ∀ ps : List Pf, PyData.canLayAll0 (ps.map pfD) = true
  | [] => by simp [PyData.canLayAll0]
  | p :: ps => by
    have h := canLay_pfs ps
    simp only [List.map_cons, PyData.canLayAll0, h, Bool.and_true]
    rfl
theorem depth_pfs : ∀ ps : List Pf, PyData.depthAll (ps.map pfD) ≤ 5
  | [] => by simp [PyData.depthAll]
  | p :: ps => by
    have h := depth_pfs ps
    simp only [List.map_cons, PyData.depthAll]
    have : PyData.depth (pfD p) ≤ 5 := by
      simp only [pfD, PyData.depth, PyData.depthAll]
      omega
    omega
theorem shaped_lst (ps : List Pf) : SeqAt.shaped (.list (ps.map pfD)) = true := by
  have h := depth_pfs ps
  show (PyData.canLay0 (.list (ps.map pfD)) && decide (PyData.depth (.list (ps.map pfD)) ≤ 64)) = true
  rw [Bool.and_eq_true]
  refine ⟨by simp only [PyData.canLay0]; exact canLay_pfs ps, decide_eq_true ?_⟩
  simp only [PyData.depth]
  omega
theorem shaped_tup (ps : List Pf) : SeqAt.shaped (.tuple (ps.map pfD)) = true := by
  have h := depth_pfs ps
  show (PyData.canLay0 (.tuple (ps.map pfD)) && decide (PyData.depth (.tuple (ps.map pfD)) ≤ 64)) = true
  rw [Bool.and_eq_true]
  refine ⟨by simp only [PyData.canLay0]; exact canLay_pfs ps, decide_eq_true ?_⟩
  simp only [PyData.depth]
  omega
theorem dpAll_pfs {K : PySem.W.Frag} {H : Hp} : ∀ {as : List Addr} {ps : List Pf}, Paired (PfAt H) as ps → DpAll K H (as.map V.ref) (ps.map pfD)
  | _, _, .nil => .nil
  | _, _, .cons h t => .cons h.dp (dpAll_pfs t)
theorem PfsL.dp {K : PySem.W.Frag} {H : Hp} {a : Addr} {ps : List Pf} : PfsL H a ps → Dp K H (.ref a) (.list (ps.map pfD)) := fun ⟨as, h, p⟩ => .lst (SqL.of h) (dpAll_pfs p)
theorem eqv_lst_nil (ps : List Pf) : PyData.eqv (.list (ps.map pfD)) (.list []) = ps.isEmpty := by
  cases ps <;> rfl
section
variable {P : Program} {w : World} {K : PySem.W.Frag} {mg : Str → Option Value} {base : Heap}
/-! ### bounds -/
def spBounds (K : PySem.W.Frag) : Sp := fun vs H Q _ => ∃ (a c : Addr) (k : Kd) (f : Nat → Bool) (fs : List Pf) (lo hi : List Nat), vs = [.ref a, .ref c] ∧ KnowAt K H a k f fs ∧ BoxAt K H c k lo hi ∧
  ∀ H' r, Same H H' → H' r = some (.tup [.int (leastZ k f lo hi (restsM k f fs)), .int (greatZ k f lo hi (restsM k f fs))]) → Q (.ref r) H'
theorem z_big (z : Int) (h : 0 ≤ z ∧ z ≤ 100) : True := trivial
theorem sc_Knowledge_bounds : FnScope ["self", "region", "least", "greatest", "rest", "inside", "left"] ["self", "region"] d_Knowledge_bounds.scope := ⟨rfl, rfl, rfl, by decide +kernel, rfl, by decide +kernel, by decide +kernel⟩
theorem ok_Knowledge_bounds  (T : Tx K mg) : Ok P w K mg base 6 d_Knowledge_bounds ["self", "region"] (spBounds K) := by
  refine T.at_Knowledge_bounds.ok sc_Knowledge_bounds (fun vs H Q E h => ?_) (fun _ _ _ _ _ _ us hl => match us, hl with | [_, _], _ => rfl) (fun cdv A outer s H vs Q E hr h => ?_)
  · obtain ⟨_, _, _, _, _, _, _, rfl, _⟩ := h; rfl
  · obtain ⟨a, c, k, f, fs, lo, hi, rfl, hKn, hB, q⟩ := h
    obtain ⟨dx, sp, d, hK, hS, hd, ok⟩ := id hKn
    have rok := restsM_ok hS.1 (f := f) ok
    refine ⟨_, pss_cons (ps_asg (pe_tup (pa_cons pe_int (pa_cons pe_int pa_nil))) (pg_tup rfl (pgs_cons (pg_name (i := 2) sc_Knowledge_bounds.nd rfl (Or.inl rfl)) (pgs_cons (pg_name (i := 3) sc_Knowledge_bounds.nd rfl (Or.inl rfl)) pgs_nil)))) (pss_cons (ps_for PassesOwn.never rfl (pi_list (pe_mc0 (pv 0) (ok_Knowledge_rests T) hr (by decide) T.c_Knowledge T.t_Knowledge_rests)) (pg_name (i := 4) sc_Knowledge_bounds.nd rfl (Or.inl rfl)) (pss_cons (ps_set (i := 5) sc_Knowledge_bounds.nd rfl (Or.inl rfl) (pe_mc (pv 0) (ok_Knowledge_room_in T) hr (by decide) T.c_Knowledge T.t_Knowledge_room_in (pa_cons (pv 4) (pa_cons (pv 1) pa_nil)))) (pss_one (ps_if (pt_cmpR op_isN (pe_fld (pv 4) rfl) pe_non (nomark _)) (pss_one (ps_set (i := 3) sc_Knowledge_bounds.nd rfl (Or.inl rfl) (pe_op op_add (pv 3) (pv 5)))) (pss_cons (ps_set (i := 6) sc_Knowledge_bounds.nd rfl (Or.inl rfl) (pe_mc (pv 0) (ok_Knowledge_points_left T) hr (by decide) T.c_Knowledge T.t_Knowledge_points_left (pa_cons (pv 4) pa_nil))) (pss_cons (ps_set (i := 2) sc_Knowledge_bounds.nd rfl (Or.inl rfl) (pe_op op_add (pv 2) (pe_callB (call_max2 rfl) rfl T.f_max (by decide +kernel) (pa_cons pe_int (pa_cons (pe_op op_sub (pv 6) (pe_op op_sub (pe_mc (pv 0) (ok_Knowledge_room T) hr (by decide) T.c_Knowledge T.t_Knowledge_room (pa_cons (pv 4) pa_nil)) (pv 5))) pa_nil))))) (pss_one (ps_set (i := 3) sc_Knowledge_bounds.nd rfl (Or.inl rfl) (pe_op op_add (pv 3) (pe_callB (call_min2 rfl) rfl T.f_min (by decide +kernel) (pa_cons (pv 6) (pa_cons (pv 5) pa_nil)))))))))))) (pss_one (ps_ret (pe_tup (pa_cons (pv 2) (pa_cons (pv 3) pa_nil)))))), ?_⟩
    refine ⟨two_line, fun t0 ht0 => ⟨t0, _, rfl, SqT.of upd_same, rfl, _, _, rfl, _, _, rfl, rfl, ?_⟩⟩
    have s0 := Same.new (o := .tup [.int 0, .int 0]) ht0
    refine ⟨_, rfl, _, _, _, rfl, (s0 _ _ hK), (by kernel_rfl), a, k, f, fs, rfl, hKn.same s0, fun H1 r s1' fr ⟨as, hr1, has⟩ => ⟨r, rfl, ⟨_, SqL.of hr1⟩, ?_⟩⟩
    have s1 := s0.trans s1'
    refine for_list (xs := as.map V.ref) (fun i σ H2 => Same H1 H2 ∧ ∃ u v z, σ = [some (.ref a), some (.ref c), some (.int (leastZ k f lo hi ((restsM k f fs).take i))), some (.int (greatZ k f lo hi ((restsM k f fs).take i))), u, v, z]) ⟨Same.refl _, none, none, none, rfl⟩ (fun i σ H2 _ ⟨s2, _⟩ => SqL.of (s2 _ _ hr1)) ?_ ?_
    · rintro i y σ H2 hy ⟨s2, u, v, z, rfl⟩
      obtain ⟨g, hg, rfl⟩ := mapGet hy
      obtain ⟨x, hx, hgx⟩ := paired_get has hg
      obtain ⟨ro, e1, e2⟩ := rok x (List.mem_of_getElem? hx)
      have s12 := s1.trans s2
      have hR2 := hgx.same s2
      refine ⟨_, rfl, _, _, _, rfl, (s12 _ _ hK), (by kernel_rfl), _, rfl, _, rfl, a, g, c, k, lo, hi, fs, x, rfl, hB.same s12, hR2, ro, ok, fun H3 s3 => ?_⟩
      have s13 := s12.trans s3
      obtain ⟨dxr, prr, innr, hri, _⟩ := id (hR2.same s3)
      refine ⟨_, rfl, _, _, _, _, _, rfl, hri, T.c_Rest, T.n_Rest_count, lRest_count, rfl, _, rfl, ?_⟩
      rw [takeGet hx, leastZ_app, greatZ_app]
      cases en : x.2.1 with
      | none =>
        refine ⟨_, rfl, _, rfl, _, _, rfl, rfl, s2.trans s3, some (.ref g), some (.int (inZ k lo hi x)), z, ?_⟩
        rw [Int.add_zero]
        rfl
      | some n =>
        refine iteF ⟨_, rfl, _, _, _, rfl, (s13 _ _ hK), (by kernel_rfl), _, rfl, a, g, k, f, fs, x, n, rfl, hKn.same s13, hR2.same s3, ro, en, fun H4 s4 => ?_⟩
        have s14 := s13.trans s4
        refine ⟨_, rfl, _, rfl, _, rfl, _, _, _, rfl, (s14 _ _ hK), (by kernel_rfl), _, rfl, a, g, k, f, fs, x, rfl, hKn.same s14, (hR2.same s3).same s4, ro, fun H5 s5 => ?_⟩
        refine ⟨_, rfl, _, _, rfl, rfl, _, _, rfl, rfl, _, _, rfl, _, _, rfl, rfl, _, rfl, _, rfl, _, rfl, _, _, rfl, _, _, rfl, rfl, s2.trans ((s3.trans s4).trans s5), some (.ref g), some (.int (inZ k lo hi x)), some (.int (leftZ k f n x.2.2)), ?_⟩
        have m1 : (if leftZ k f n x.2.2 - (roomZ k x - inZ k lo hi x) > 0 then leftZ k f n x.2.2 - (roomZ k x - inZ k lo hi x) else 0) = max 0 (leftZ k f n x.2.2 - (roomZ k x - inZ k lo hi x)) := by split <;> omega
        have m2 : (if inZ k lo hi x < leftZ k f n x.2.2 then inZ k lo hi x else leftZ k f n x.2.2) = min (leftZ k f n x.2.2) (inZ k lo hi x) := by split <;> omega
        show [_, _, some (V.int (_ + (if leftZ k f n x.2.2 - (roomZ k x - inZ k lo hi x) > 0 then _ else _))), some (V.int (_ + (if inZ k lo hi x < leftZ k f n x.2.2 then _ else _))), _, _, _] = _
        rw [m1, m2]
    · rintro σ H2 ⟨s2, u, v, z, rfl⟩
      rw [List.length_map, paired_len has, List.take_length]
      refine ⟨_, rfl, _, rfl, two_line, fun t ht => q _ t ((s1.trans s2).trans (Same.new ht)) upd_same⟩
/-! ### known -/
def spKnown (K : PySem.W.Frag) : Sp := fun vs H Q _ => ∃ (a b : Addr) (k : Kd) (f : Nat → Bool) (fs : List Pf) (p : Pf), vs = [.ref a, .ref b] ∧ KnowAt K H a k f fs ∧ PfAt H b p ∧ Valid k p ∧
  ∀ H' v, Same H H' → (v = .non ↔ ¬ KnownM k f fs p) → Q v H'
theorem sc_Knowledge_known : FnScope ["self", "prefix", "lows", "highs", "least", "greatest"] ["self", "prefix"] d_Knowledge_known.scope := ⟨rfl, rfl, rfl, by decide +kernel, rfl, by decide +kernel, by decide +kernel⟩
theorem ok_Knowledge_known  (T : Tx K mg) : Ok P w K mg base 7 d_Knowledge_known ["self", "prefix"] (spKnown K) := by
  refine T.at_Knowledge_known.ok sc_Knowledge_known (fun vs H Q E h => ?_) (fun _ _ _ _ _ _ us hl => match us, hl with | [_, _], _ => rfl) (fun cdv A outer s H vs Q E hr h => ?_)
  · obtain ⟨_, _, _, _, _, _, rfl, _⟩ := h; rfl
  · obtain ⟨a, b, k, f, fs, p, rfl, hKn, hp, v, q⟩ := h
    obtain ⟨dx, sp, d, hK, hS, hd, ok⟩ := id hKn
    obtain ⟨dx1, hS1⟩ := hS.2
    refine ⟨_, pss_cons (ps_asg (pe_mc (pe_fld (pv 0) rfl) (ok_Space_cell T) hr (by decide) T.c_Space T.t_Space_cell (pa_cons (pv 1) pa_nil)) (pg_tup rfl (pgs_cons (pg_name (i := 2) sc_Knowledge_known.nd rfl (Or.inl rfl)) (pgs_cons (pg_name (i := 3) sc_Knowledge_known.nd rfl (Or.inl rfl)) pgs_nil)))) (pss_cons (ps_asg (pe_mc (pv 0) (ok_Knowledge_bounds T) hr (by decide) T.c_Knowledge T.t_Knowledge_bounds (pa_cons (pe_mk (ok_Box_init T) hr (by decide) rfl T.g_Box T.m_Box (pa_cons (pe_fld (pv 0) rfl) (pa_cons (pv 2) (pa_cons (pv 3) pa_nil)))) pa_nil)) (pg_tup rfl (pgs_cons (pg_name (i := 4) sc_Knowledge_known.nd rfl (Or.inl rfl)) (pgs_cons (pg_name (i := 5) sc_Knowledge_known.nd rfl (Or.inl rfl)) pgs_nil)))) (pss_one (ps_ret (pe_ifExp (pt_cmpR op_eq (pv 4) (pv 5) (nomark _)) (pv 4) pe_non)))), ?_⟩
    refine ⟨_, rfl, _, _, _, _, _, rfl, hK, T.c_Knowledge, T.n_Knowledge_space, lKnowledge_space, _, _, _, rfl, hS1, (by kernel_rfl), _, rfl, sp, b, k, p, rfl, hS, hp, v.1, fun H1 r x y s1 hr1 hx hy => ⟨r, _, rfl, SqT.of hr1, rfl, _, _, rfl, _, _, rfl, rfl, ?_⟩⟩
    refine ⟨_, rfl, _, _, _, rfl, (s1 _ _ hK), (by kernel_rfl), _, rfl, _, _, _, _, _, rfl, (s1 _ _ hK), T.c_Knowledge, T.n_Knowledge_space, lKnowledge_space, _, rfl, _, rfl, fun bx dxb nx ndx nex => ?_⟩
    have sb : Same H1 (upd (upd H1 dxb (.own bx)) bx (.ins (He.ga K "Box") dxb [])) := fun c o e => by
      rw [upd_ne (ne_of_none e nx), upd_ne (ne_of_none e ndx)]
      exact e
    have bo := cell_boxOk hS.1 v
    refine ⟨bx, dxb, sp, x, y, k, _, _, rfl, (hS.same s1).same sb, hx.same sb, hy.same sb, bo, upd_same, fun H2 s2 hb2 => ⟨rfl, ?_⟩⟩
    have s12 : Same H1 H2 := s2.made nx ndx
    have s02 := s1.trans s12
    have hB2 : BoxAt K H2 bx k (ptOf k (loN k p)) (ptOf k (hiN k p)) := ⟨dxb, sp, x, y, hb2, hS.same s02, hx.same s12, hy.same s12, bo.1, bo.2.1⟩
    refine ⟨a, bx, k, f, fs, _, _, rfl, hKn.same s02, hB2, fun H3 r3 s3 hr3 => ⟨r3, _, rfl, SqT.of hr3, rfl, _, _, rfl, _, _, rfl, rfl, ?_⟩⟩
    refine ⟨_, rfl, _, rfl, rfl, _, rfl, ?_⟩
    refine ite2 (fun e => ?_) (fun e => ?_)
    · refine ⟨_, rfl, q _ _ (s02.trans s3) ⟨fun z => (by cases z), fun z => absurd ?_ z⟩⟩
      have e' := of_decide_eq_true e
      injection e' with e'
    · refine q _ _ (s02.trans s3) ⟨fun _ z => e (decide_eq_true ?_), fun _ => rfl⟩
      exact congrArg V.int z
end
end Fc

set_option Elab.async false
set_option autoImplicit false
set_option linter.all false
set_option maxRecDepth 100000
/-! Walks: is_enough; small ones of the telling. -/
namespace Fc
open PySem PySem.Spec PyProof.Rows L2
def wt (ps : List Pf) : Nat := (ps.map fun p => 3 ^ (5 - p.1)).sum
theorem wt_app (xs ys : List Pf) : wt (xs ++ ys) = wt xs + wt ys := by
  unfold wt
  rw [List.map_append, List.sum_append]
theorem wt_len : ∀ ps : List Pf, ps.length ≤ wt ps
  | [] => Nat.le_refl _
  | p :: ps => by
    have h := wt_len ps
    have : 0 < 3 ^ (5 - p.1) := Nat.pow_pos (by decide)
    show ps.length + 1 ≤ 3 ^ (5 - p.1) + wt ps
    omega
theorem isIn_halves {q p : Pf} (h : isIn q p = true) (l : p.1 < q.1) : isIn q (p.1 + 1, 2 * p.2) = true ∨ isIn q (p.1 + 1, 2 * p.2 + 1) = true := by
  unfold isIn at h ⊢
  simp only [Bool.and_eq_true, decide_eq_true_eq] at h ⊢
  have e : q.1 - p.1 = (q.1 - (p.1 + 1)) + 1 := by omega
  have h2 := h.2
  rw [e, child_of] at h2
  rcases h2 with h2 | h2
  · exact .inl ⟨by omega, h2⟩
  · exact .inr ⟨by omega, h2⟩
theorem room_up {k : Kd} (hk : k ∈ kinds) {lo hi : List Nat} (b : BoxOk k lo hi) : ∀ (n : Nat) {q p : Pf}, q.1 - p.1 = n → Valid k q → Valid k p → isIn q p = true → 0 < roomM k lo hi q → 0 < roomM k lo hi p
  | 0, q, p, e, vq, vp, i, r => by
    unfold isIn at i
    simp only [Bool.and_eq_true, decide_eq_true_eq] at i
    have e1 : q.1 = p.1 := by omega
    have e2 := i.2
    rw [e1] at e2
    simp at e2
    have e3 : q = p := Prod.ext e1 e2
    rw [← e3]
    exact r
  | n + 1, q, p, e, vq, vp, i, r => by
    have lq := vq.1
    refine (half_room hk b vp (by omega)).mpr ?_
    have v1 : Valid k (p.1 + 1, 2 * p.2) := ⟨by show p.1 + 1 ≤ k.D; omega, by have := vp.2; show 2 * p.2 < 2 ^ (p.1 + 1); rw [Nat.pow_succ]; omega⟩
    have v2 : Valid k (p.1 + 1, 2 * p.2 + 1) := ⟨by show p.1 + 1 ≤ k.D; omega, by have := vp.2; show 2 * p.2 + 1 < 2 ^ (p.1 + 1); rw [Nat.pow_succ]; omega⟩
    rcases isIn_halves i (by omega) with h | h
    · exact .inl (room_up hk b n (by show q.1 - (p.1 + 1) = n; omega) vq v1 h r)
    · exact .inr (room_up hk b n (by show q.1 - (p.1 + 1) = n; omega) vq v2 h r)
theorem valid_halves {k : Kd} {p : Pf} (vp : Valid k p) (l : p.1 < k.D) : Valid k (p.1 + 1, 2 * p.2) ∧ Valid k (p.1 + 1, 2 * p.2 + 1) :=
  ⟨⟨by show p.1 + 1 ≤ k.D; omega, by have := vp.2; show 2 * p.2 < 2 ^ (p.1 + 1); rw [Nat.pow_succ]; omega⟩, ⟨by show p.1 + 1 ≤ k.D; omega, by have := vp.2; show 2 * p.2 + 1 < 2 ^ (p.1 + 1); rw [Nat.pow_succ]; omega⟩⟩
/-- a box of the law -/
def BoxL (K : PySem.W.Frag) (H : Hp) (a : Addr) (k : Kd) (lo hi : List Nat) : Prop := BoxAt K H a k lo hi ∧ BoxOk k lo hi ∧ k ∈ kinds
theorem BoxL.same {K : PySem.W.Frag} {H H' : Hp} {a : Addr} {k : Kd} {lo hi : List Nat} (s : Same H H') (h : BoxL K H a k lo hi) : BoxL K H' a k lo hi := ⟨h.1.same s, h.2⟩
def EnoughM (k : Kd) (f : Nat → Bool) (fs : List Pf) (lo hi : List Nat) (c : Nat) : Prop := ∀ q : Pf, Valid k q → q.1 = c → 0 < roomM k lo hi q → KnownM k f fs q
section
variable {P : Program} {w : World} {K : PySem.W.Frag} {mg : Str → Option Value} {base : Heap}
def spEnough (K : PySem.W.Frag) : Sp := fun vs H Q _ => ∃ (a b : Addr) (c : Nat) (k : Kd) (f : Nat → Bool) (fs : List Pf) (lo hi : List Nat), vs = [.ref a, .ref b, .int (c : Int)] ∧ KnowAt K H a k f fs ∧ BoxL K H b k lo hi ∧ c ≤ k.D ∧
  ∀ H' (r : Bool), Same H H' → (r = true ↔ EnoughM k f fs lo hi c) → Q (.bl r) H'
theorem sc_is_enough : FnScope ["knowledge", "box", "fineness", "waiting", "prefix"] ["knowledge", "box", "fineness"] d_is_enough.scope := ⟨rfl, rfl, rfl, by decide +kernel, rfl, by decide +kernel, by decide +kernel⟩
theorem ok_is_enough  (T : Tx K mg) : Ok P w K mg base 8 d_is_enough ["knowledge", "box", "fineness"] (spEnough K) := by
  refine T.at_is_enough.ok sc_is_enough (fun vs H Q E h => ?_) (fun _ _ _ _ _ _ us hl => match us, hl with | [_, _, _], _ => rfl) (fun cdv A outer s H vs Q E hr h => ?_)
  · obtain ⟨_, _, _, _, _, _, _, _, rfl, _⟩ := h; rfl
  · obtain ⟨a, b, c, k, f, fs, lo, hi, rfl, hKn, ⟨hB, bo, hk⟩, hc, q⟩ := h
    obtain ⟨dx, sp, d, hK, hS, hd, ok⟩ := id hKn
    obtain ⟨dxb, spb, al, ah, hBi, _⟩ := id hB
    have kl := kinds_le hk
    refine ⟨_, pss_cons (ps_set (i := 3) sc_is_enough.nd rfl (Or.inl rfl) (pe_lst (pa_cons (pe_tup (pa_cons pe_int (pa_cons pe_int pa_nil))) pa_nil))) (pss_cons (ps_while PassesOwn.never (pt_cmpR (op_neD hr.units) (pv 3) (pe_lst pa_nil) (nomark _)) (pss_cons (ps_set (i := 4) sc_is_enough.nd rfl (Or.inl rfl) (pe_bm0 PySem.F.plainAttrs_list PySem.F.slot_list_pop PySem.F.type_list_pop mt_pop (pv 3))) (pss_one (ps_if (pt_cmpR op_gt (pe_mc (pv 1) (ok_Box_room T) hr (by decide) T.c_Box T.t_Box_room (pa_cons (pv 4) pa_nil)) pe_int (nomark _)) (pss_one (ps_if (pt_cmpR op_eq (pe_ix ix_tup (pv 4) pe_int (fun _ _ => rfl)) (pv 2) (nomark _)) (pss_one (ps_if (pt_cmpR op_isN (pe_mc (pv 0) (ok_Knowledge_known T) hr (by decide) T.c_Knowledge T.t_Knowledge_known (pa_cons (pv 4) pa_nil)) pe_non (nomark _)) (pss_one (ps_ret pe_bl)) (pss_nil))) (pss_one (ps_expr (pe_bm PySem.F.plainAttrs_list PySem.F.slot_list_extend PySem.F.type_list_extend mt_extend (pv 3) (pa_cons (pe_callTy call_list_of rfl T.f_list (by decide +kernel) (pa_cons (pe_fc (ok_halves_of T) hr (by decide) rfl T.g_halves_of (pa_cons (pv 4) pa_nil)) pa_nil)) pa_nil)))))) (pss_nil))))) (pss_one (ps_ret pe_bl))), ?_⟩
    refine ⟨two_line, fun t ht => ⟨(by show 1 ≤ sizeLine; decide), fun Wt hW => ?_⟩⟩
    have s1 := Same.new (o := .tup [.int 0, .int 0]) ht
    have s2 : Same H (upd (upd H t (.tup [.int 0, .int 0])) Wt (.lst [.ref t])) := s1.trans (Same.new hW)
    have fW : H Wt = none := s1.free hW
    have I0 : ∀ q : Pf, Valid k q → isIn q (0, 0) = true := fun q vq => by
      unfold isIn
      rw [Bool.and_eq_true, decide_eq_true_eq, decide_eq_true_eq]
      exact ⟨Nat.zero_le _, by show q.2 / 2 ^ (q.1 - 0) = 0; rw [Nat.sub_zero]; exact Nat.div_eq_of_lt vq.2⟩
    refine ⟨fun m σ H2 => Same H H2 ∧ ∃ (ps : List Pf) (u : Option V), PfsL H2 Wt ps ∧ (∀ p ∈ ps, Valid k p ∧ p.1 ≤ c) ∧ m = wt ps ∧ wt ps ≤ 243 ∧ (∀ q : Pf, Valid k q → q.1 = c → 0 < roomM k lo hi q → KnownM k f fs q ∨ ∃ p ∈ ps, isIn q p = true) ∧ σ = [some (.ref a), some (.ref b), some (.int (c : Int)), some (.ref Wt), u],
      ⟨_, s2, [(0, 0)], none, ⟨[t], upd_same, .cons (Same.new hW _ _ upd_same) .nil⟩, fun p hp => ?_, rfl, by decide, fun q vq _ _ => .inr ⟨(0, 0), List.mem_singleton.mpr rfl, I0 q vq⟩, rfl⟩, ?_⟩
    · rw [List.mem_singleton.mp hp]
      exact ⟨⟨Nat.zero_le _, Nat.one_pos⟩, Nat.zero_le _⟩
    rintro m σ H2 ⟨s3, ps, u, hPs, hv, rfl, h243, hinv, rfl⟩
    refine ⟨_, rfl, Nat.zero_le _, fun E0' hE => ?_⟩
    have s4 := Same.new (o := .lst []) hE
    refine ⟨_, _, (hPs.same s4).dp, .lst (SqL.of upd_same) .nil, shaped_lst ps, shaped_lst [], _, rfl, ?_⟩
    rw [eqv_lst_nil]
    cases hps : ps with
    | nil =>
      subst hps
      refine iteF (q _ true (s3.trans s4) ⟨fun _ q vq e r => ?_, fun _ => rfl⟩)
      rcases hinv q vq e r with h | ⟨p, hp, _⟩
      · exact h
      · cases hp
    | cons p0 pr =>
      have ne : ps ≠ [] := by rw [hps]; exact List.cons_ne_nil _ _
      rw [← hps]
      have e1 : (!ps.isEmpty) = true := by rw [hps]; rfl
      rw [e1]
      refine iteT ?_
      obtain ⟨as, hWs, hpr⟩ := hPs.same s4
      -- the last one
      obtain ⟨p, ei⟩ : ∃ p, ps = ps.dropLast ++ [p] := ⟨ps.getLast ne, (List.dropLast_concat_getLast ne).symm⟩
      have la := paired_len hpr
      have lne : as ≠ [] := fun e => by rw [e] at la; exact ne (List.length_eq_zero_iff.mp la.symm)
      obtain ⟨g, eg⟩ : ∃ g, as = as.dropLast ++ [g] := ⟨as.getLast lne, (List.dropLast_concat_getLast lne).symm⟩
      have lp : 0 < ps.length := List.length_pos_iff.mpr ne
      have gl : as[as.length - 1]? = some g := by
        have : as.length - 1 = as.dropLast.length := by simp
        rw [this]
        conv => lhs; arg 1; rw [eg]
        simp
      obtain ⟨p', hp', hgp⟩ := paired_get hpr gl
      have pl : ps[as.length - 1]? = some p := by
        have : as.length - 1 = ps.dropLast.length := by rw [la]; simp
        rw [this]
        conv => lhs; arg 1; rw [ei]
        simp
      have epp : p' = p := Option.some.inj (hp'.symm.trans pl)
      subst epp
      have mp : p' ∈ ps := List.mem_of_getElem? hp'
      obtain ⟨vp, lpc⟩ := hv p' mp
      have hpd : Paired (PfAt (upd H2 E0' (.lst []))) as.dropLast ps.dropLast := by
        have : ∀ {as : List Addr} {ps : List Pf}, Paired (PfAt (upd H2 E0' (.lst []))) as ps → Paired (PfAt (upd H2 E0' (.lst []))) as.dropLast ps.dropLast := by
          intro as ps h
          induction h with
          | nil => exact .nil
          | @cons a' b' as' bs' h1 t ih =>
            cases t with
            | nil => exact .nil
            | cons h2 t2 => exact .cons h1 ih
        exact this hpr
      have wp : wt ps = wt ps.dropLast + 3 ^ (5 - p'.1) := by
        conv => lhs; rw [ei]
        rw [wt_app]
        rfl
      have w3 : 0 < 3 ^ (5 - p'.1) := Nat.pow_pos (by decide)
      generalize hH3 : upd (upd H2 E0' (.lst [])) Wt (.lst (as.dropLast.map V.ref)) = H3
      have s5 : Same H H3 := by rw [← hH3]; exact same_on (s3.trans s4) fW
      have hW3 : H3 Wt = some (.lst (as.dropLast.map V.ref)) := by rw [← hH3]; exact upd_same
      have hpd3 : Paired (PfAt H3) as.dropLast ps.dropLast := by rw [← hH3]; exact pfs_upd hWs hpd
      have hgp3 : PfAt H3 g p' := by
        have e : (upd H2 E0' (.lst [])) g = some (.tup _) := hgp
        rw [← hH3]
        show upd _ Wt _ g = _
        rw [upd_ne (ne_of e hWs (by intro z; cases z))]
        exact e
      refine ⟨fun σ' H' => ∃ m', m' < wt ps ∧ Same H H' ∧ ∃ (ps : List Pf) (u : Option V), PfsL H' Wt ps ∧ (∀ p ∈ ps, Valid k p ∧ p.1 ≤ c) ∧ m' = wt ps ∧ wt ps ≤ 243 ∧ (∀ q : Pf, Valid k q → q.1 = c → 0 < roomM k lo hi q → KnownM k f fs q ∨ ∃ p ∈ ps, isIn q p = true) ∧ σ' = [some (.ref a), some (.ref b), some (.int (c : Int)), some (.ref Wt), u], fun σ' H' z => z, ?_⟩
      refine ⟨_, rfl, .inl ⟨rfl, _, SqL.of hWs⟩, Wt, _, .ref g, rfl, rfl, hWs, (by rw [List.length_map, List.getElem?_map, gl]; rfl), ?_⟩
      rw [← List.map_dropLast, hH3]
      refine ⟨_, rfl, _, _, _, rfl, (s5 _ _ hBi), (by kernel_rfl), _, rfl, b, g, k, lo, hi, p', rfl, hB.same s5, hgp3, vp.1, fun H4 s6 => ?_⟩
      have s7 := s5.trans s6
      have old : ∀ q : Pf, Valid k q → q.1 = c → 0 < roomM k lo hi q → ¬ isIn q p' = true → KnownM k f fs q ∨ ∃ p ∈ ps.dropLast, isIn q p = true := fun q vq e r ni => by
        rcases hinv q vq e r with h | ⟨z, hz, iz⟩
        · exact .inl h
        · rw [ei] at hz
          rcases List.mem_append.mp hz with hz | hz
          · exact .inr ⟨z, hz, iz⟩
          · rw [List.mem_singleton.mp hz] at iz
            exact absurd iz ni
      have hvd : ∀ p ∈ ps.dropLast, Valid k p ∧ p.1 ≤ c := fun p hp => hv p (List.dropLast_subset ps hp)
      refine ⟨_, _, rfl, rfl, _, rfl, ?_⟩
      by_cases hroom : 0 < roomM k lo hi p'
      · rw [show decide (((roomM k lo hi p' : Nat) : Int) > 0) = true from decide_eq_true (by omega)]
        refine iteT ⟨_, rfl, _, _, 0, _, rfl, rfl, (hgp3.same s6).sq, atI_nat (j := 0) rfl, _, rfl, rfl, _, rfl, ?_⟩
        rw [int_dec]
        by_cases hcell : p'.1 = c
        · rw [decide_eq_true hcell]
          refine iteT ⟨_, rfl, _, _, _, rfl, (s7 _ _ hK), (by kernel_rfl), _, rfl, a, g, k, f, fs, p', rfl, hKn.same s7, hgp3.same s6, vp, fun H5 v s8 hvn => ⟨rfl, _, rfl, ?_⟩⟩
          by_cases en : v = .non
          · rw [decide_eq_true en]
            refine iteT (q _ false (s7.trans s8) ⟨fun z => (by cases z), fun z => absurd (z p' vp hcell hroom) (hvn.mp en)⟩)
          · rw [decide_eq_false en]
            have kn : KnownM k f fs p' := Classical.byContradiction fun z => en (hvn.mpr z)
            refine ⟨wt ps.dropLast, by omega, s7.trans s8, ps.dropLast, some (.ref g), ⟨as.dropLast, s8 _ _ (s6 _ _ hW3), pfs_same s8 (pfs_same s6 hpd3)⟩, hvd, rfl, by omega, fun q vq e r => ?_, rfl⟩
            by_cases iq : isIn q p' = true
            · refine .inl ?_
              have e2 : q = p' := by
                unfold isIn at iq
                simp only [Bool.and_eq_true, decide_eq_true_eq] at iq
                have e1 : q.1 = p'.1 := by omega
                have e3 := iq.2
                rw [e1] at e3
                simp at e3
                exact Prod.ext e1 e3
              rw [e2]
              exact kn
            · exact old q vq e r iq
        · rw [decide_eq_false hcell]
          have vh := valid_halves vp (by omega)
          refine iteF ⟨_, rfl, .inl ⟨rfl, _, SqL.of (s6 _ _ hW3)⟩, _, rfl, g, p', rfl, hgp3.same s6, fun H5 hb x y s8 hhb hx hy => ⟨hb, _, rfl, .inr (SqT.of hhb), fun l hl => ?_⟩⟩
          have s9 := Same.new (o := .lst [.ref x, .ref y]) hl
          have hW5 := s9 _ _ (s8 _ _ (s6 _ _ hW3))
          have w1 : wt [(p'.1 + 1, 2 * p'.2), (p'.1 + 1, 2 * p'.2 + 1)] < 3 ^ (5 - p'.1) := by
            have e : 5 - p'.1 = (5 - (p'.1 + 1)) + 1 := by omega
            show 3 ^ (5 - (p'.1 + 1)) + (3 ^ (5 - (p'.1 + 1)) + 0) < _
            rw [e, Nat.pow_succ]
            have : 0 < 3 ^ (5 - (p'.1 + 1)) := Nat.pow_pos (by decide)
            omega
          refine ⟨Wt, l, _, _, rfl, rfl, hW5, upd_same, ?_, ?_⟩
          · have h1 := wt_len ps.dropLast
            have h2 := paired_len hpd3
            have h1000 : (1000 : Nat) ≤ sizeLine := by decide
            rw [List.length_map]
            show as.dropLast.length + 2 ≤ sizeLine
            omega
          · have pz := pfs_same s9 (pfs_same s8 (pfs_same s6 hpd3))
            have pz2 := paired_snoc (paired_snoc pz (hx.same s9)) (hy.same s9)
            rw [List.append_assoc, List.append_assoc] at pz2
            refine ⟨wt (ps.dropLast ++ [(p'.1 + 1, 2 * p'.2), (p'.1 + 1, 2 * p'.2 + 1)]), by rw [wt_app]; omega, same_on (s7.trans (s8.trans s9)) fW, ps.dropLast ++ [(p'.1 + 1, 2 * p'.2), (p'.1 + 1, 2 * p'.2 + 1)], some (.ref g), ⟨as.dropLast ++ [x, y], ?_, pfs_upd hW5 pz2⟩, fun z hz => ?_, rfl, by rw [wt_app]; omega, fun q vq e r => ?_, rfl⟩
            · rw [List.map_append]
              exact upd_same
            · rcases List.mem_append.mp hz with hz | hz
              · exact hvd z hz
              · rcases List.mem_cons.mp hz with e | hz
                · rw [e]; exact ⟨vh.1, by show p'.1 + 1 ≤ c; omega⟩
                · rw [List.mem_singleton.mp hz]; exact ⟨vh.2, by show p'.1 + 1 ≤ c; omega⟩
            · by_cases iq : isIn q p' = true
              · rcases isIn_halves iq (by omega) with h | h
                · exact .inr ⟨_, List.mem_append_right _ (List.mem_cons_self ..), h⟩
                · exact .inr ⟨_, List.mem_append_right _ (List.mem_cons_of_mem _ (List.mem_singleton.mpr rfl)), h⟩
              · rcases old q vq e r iq with h | ⟨z, hz, iz⟩
                · exact .inl h
                · exact .inr ⟨z, List.mem_append_left _ hz, iz⟩
      · rw [show decide (((roomM k lo hi p' : Nat) : Int) > 0) = false from decide_eq_false (by omega)]
        refine iteF ⟨wt ps.dropLast, by omega, s7, ps.dropLast, some (.ref g), ⟨as.dropLast, s6 _ _ hW3, pfs_same s6 hpd3⟩, hvd, rfl, by omega, fun q vq e r => ?_, rfl⟩
        by_cases iq : isIn q p' = true
        · exact absurd (room_up hk bo _ rfl vq vp iq r) hroom
        · exact old q vq e r iq
end
end Fc

set_option Elab.async false
set_option autoImplicit false
set_option linter.all false
set_option maxRecDepth 100000
/-! The telling: its objects, its answers, its memory. -/
namespace Fc
open PySem PySem.Spec PyProof.Rows L2
/-! ### what no memory write touches -/
def Solid : HO → Prop
  | .dK _ => False
  | .ext _ => False
  | _ => True
def SameS (H H' : Hp) : Prop := ∀ b o, Solid o → H b = some o → H' b = some o
theorem Same.s {H H' : Hp} (s : Same H H') : SameS H H' := fun b o _ e => s b o e
theorem SameS.refl (H : Hp) : SameS H H := fun _ _ _ e => e
theorem SameS.trans {H H1 H2 : Hp} (a : SameS H H1) (b : SameS H1 H2) : SameS H H2 := fun c o n e => b c o n (a c o n e)
theorem SameS.space {K : PySem.W.Frag} {H H' : Hp} {a : Addr} {k : Kd} (s : SameS H H') : SpaceAt K H a k → SpaceAt K H' a k := fun ⟨h, dx, e⟩ => ⟨h, dx, s _ _ trivial e⟩
theorem SameS.pf {H H' : Hp} {a : Addr} {p : Pf} (s : SameS H H') (h : PfAt H a p) : PfAt H' a p := s _ _ trivial h
theorem SameS.tupN {H H' : Hp} {a : Addr} {ns : List Nat} (s : SameS H H') (h : TupN H a ns) : TupN H' a ns := s _ _ trivial h
theorem SameS.box {K : PySem.W.Frag} {H H' : Hp} {a : Addr} {k : Kd} {lo hi : List Nat} (s : SameS H H') : BoxL K H a k lo hi → BoxL K H' a k lo hi :=
  fun ⟨⟨dx, sp, al, ah, h1, h2, h3, h4, h5⟩, h6⟩ => ⟨⟨dx, sp, al, ah, s _ _ trivial h1, s.space h2, s.tupN h3, s.tupN h4, h5⟩, h6⟩
theorem SameS.cloud {K : PySem.W.Frag} {H H' : Hp} {a : Addr} {k : Kd} {f : Nat → Bool} (s : SameS H H') : CloudAt K H a k f → CloudAt K H' a k f :=
  fun ⟨dx, sp, ro, h1, h2, h3⟩ => ⟨dx, sp, ro, s _ _ trivial h1, s.space h2, s.tupN h3⟩
theorem SameS.know {K : PySem.W.Frag} {H H' : Hp} {a : Addr} {k : Kd} {f : Nat → Bool} {fs : List Pf} (s : SameS H H') : KnowAt K H a k f fs → KnowAt K H' a k f fs :=
  fun ⟨dx, sp, d, h1, h2, h3, h4⟩ => ⟨dx, sp, d, s _ _ trivial h1, s.space h2, s _ _ trivial h3, h4⟩
theorem SameS.pfs {H H' : Hp} (s : SameS H H') : ∀ {as : List Addr} {ps : List Pf}, Paired (PfAt H) as ps → Paired (PfAt H') as ps
  | _, _, .nil => .nil
  | _, _, .cons h t => .cons (s.pf h) (s.pfs t)
/-! ### parameters -/
structure Tp where
  k : Kd
  f : Nat → Bool
  fs : List Pf
  lo : List Nat
  hi : List Nat
  c : Nat
def Tp.h (t : Tp) : Nat := t.k.D - t.c
def Tp.nd (t : Tp) : Nat → Bool := fun n => decide (0 < roomM t.k t.lo t.hi (t.c, n))
def Tp.W (t : Tp) : Nat → Bool := Wn t.nd t.h
def Tp.F (t : Tp) : Told := TM t.k t.fs
/-- the telling's object -/
def TellI (K : PySem.W.Frag) (H : Hp) (a : Addr) (t : Tp) (kn : Addr) : Prop :=
  ∃ dx cl sp fa bo ho hs, H a = some (.ins (He.ga K "Telling") dx (flTelling cl sp fa bo (t.c : Int) kn ho)) ∧ CloudAt K H cl t.k t.f ∧ SpaceAt K H sp t.k ∧ H fa = some (.dT (factD t.k t.f t.fs)) ∧ FOk t.k t.fs ∧ BoxL K H bo t.k t.lo t.hi ∧ t.c ≤ t.k.D ∧
    H ho = some (.dT hs) ∧ ∀ p, Valid t.k p → ((valV hs (kN p)).isSome = true ↔ ∃ q ∈ t.fs, isIn q p = true ∧ q ≠ p)
theorem SameS.tell {K : PySem.W.Frag} {H H' : Hp} {a : Addr} {t : Tp} {kn : Addr} (s : SameS H H') : TellI K H a t kn → TellI K H' a t kn :=
  fun ⟨dx, cl, sp, fa, bo, ho, hs, h1, h2, h3, h4, h5, h6, h7, h8, h9⟩ => ⟨dx, cl, sp, fa, bo, ho, hs, s _ _ trivial h1, s.cloud h2, s.space h3, s _ _ trivial h4, h5, s.box h6, h7, s _ _ trivial h8, h9⟩
/-! ### answers -/
def AnsAt (H : Hp) (v : V) (r : Ans) : Prop := match r with
  | none => v = .non
  | some x => ∃ a b as, v = .ref a ∧ H a = some (.tup [.int (x.1 : Nat), .ref b]) ∧ H b = some (.tup (as.map V.ref)) ∧ Paired (PfAt H) as x.2
theorem SameS.ans {H H' : Hp} {v : V} {r : Ans} (s : SameS H H') (h : AnsAt H v r) : AnsAt H' v r := by
  cases r with
  | none => exact h
  | some x =>
    obtain ⟨a, b, as, h1, h2, h3, h4⟩ := h
    exact ⟨a, b, as, h1, s _ _ trivial h2, s _ _ trivial h3, s.pfs h4⟩
def wStr : Wd → Str
  | .bare => "bare"
  | .full => "full"
  | .lone => "lone"
  | .all => "all"
  | .needed => "needed"
theorem wStr_inj {a b : Wd} (h : wStr a = wStr b) : a = b := by
  revert h
  cases a <;> cases b <;> first | (intro _; rfl) | (intro h; exact absurd h (by decide +kernel))
/-- what an answer at a node says -/
def SpecV (t : Tp) (wd : Wd) (p : Pf) (r : Ans) : Prop :=
  ((p.1 ≤ t.c ∧ SpecX (X := t.f) (W := t.W) (c := t.h) (D := t.k.D) (F := t.F) wd (t.k.D - p.1) p.2 r) ∨ (t.c < p.1 ∧ SpecD t.f t.W t.h t.F wd (t.k.D - p.1) p.2 r)) ∧
  ∀ x, r = some x → x.2.length + 1 ≤ 2 ^ (t.k.D - p.1 + 1)
def Allow (t : Tp) (wd : Wd) (p : Pf) : Prop := Valid t.k p ∧ (t.c < p.1 → wd = .bare ∨ wd = .full ∨ wd = .all)
/-! ### the memory -/
def wk (wd : Wd) (p : Pf) : WK := (wStr wd, (p.1 : Int), (p.2 : Int))
theorem wk_inj {a b : Wd} {p q : Pf} (h : wk a p = wk b q) : a = b ∧ p = q := by
  have h1 := (Prod.mk.inj h).1
  have h2 := Prod.mk.inj (Prod.mk.inj h).2
  exact ⟨wStr_inj h1, Prod.ext (by omega) (by omega)⟩
def MemoAt (P : Program) (w : World) (H : Hp) (kn : Addr) (t : Tp) : Prop :=
  ∃ kvs, ND P w H kn kvs ∧ (kvs.map (·.1)).Nodup ∧ ∀ key v, valV kvs key = some v → ∃ wd p r, key = wk wd p ∧ Allow t wd p ∧ AnsAt H v r ∧ SpecV t wd p r
theorem MemoAt.same {P : Program} {w : World} {H H' : Hp} {kn : Addr} {t : Tp} (s : Same H H') : MemoAt P w H kn t → MemoAt P w H' kn t := fun ⟨kvs, h1, h2, h3⟩ =>
  ⟨kvs, h1.same s, h2, fun key v e => (h3 key v e).imp fun wd z => z.imp fun p z => z.imp fun r ⟨e1, e2, e3, e4⟩ => ⟨e1, e2, (Same.s s).ans e3, e4⟩⟩
theorem nd_not_solid {P : Program} {w : World} {H : Hp} {d b : Addr} {kvs : List (WK × V)} {o : HO} (x : ND P w H d kvs) (hs : Solid o) (e : H b = some o) : b ≠ d := by
  rintro rfl
  rcases x with ⟨h, _⟩ | ⟨ob, es, ep, xs, h, _⟩
  · rw [h] at e; cases e; exact hs
  · rw [h] at e; cases e; exact hs
theorem putK_keys {α : Type} [DecidableEq α] (kvs : List (α × V)) (k : α) (v : V) (hn : (kvs.map (·.1)).Nodup) : ((putK kvs k v).map (·.1)).Nodup := by
  cases e : valV kvs k with
  | none => exact nd_putK v hn e
  | some u =>
    have m : (kvs.any fun kv => decide (kv.1 = k)) = true := by rw [valV_any, e]; rfl
    have e2 : (putK kvs k v).map (·.1) = kvs.map (·.1) := by
      unfold putK
      rw [if_pos m, List.map_map]
      refine List.map_congr_left fun x _ => ?_
      show (if x.1 = k then (x.1, v) else x).1 = x.1
      split <;> rfl
    rw [e2]
    exact hn
theorem valV_some {α : Type} [DecidableEq α] {kvs : List (α × V)} {k : α} (h : k ∈ kvs.map (·.1)) : ∃ v, valV kvs k = some v := by
  cases e : valV kvs k with
  | none => exact absurd h (valV_not e)
  | some v => exact ⟨v, rfl⟩
def allKeys : List WK := [Wd.bare, .full, .lone, .all, .needed].flatMap fun wd => (nodesTo 3).map fun p => wk wd p
theorem memo_len {t : Tp} (hk : t.k ∈ kinds) {kvs : List (WK × V)} (hn : (kvs.map (·.1)).Nodup) (h : ∀ key v, valV kvs key = some v → ∃ wd p, key = wk wd p ∧ Allow t wd p) : kvs.length < sizeLine := by
  have le : (kvs.map (·.1)).length ≤ allKeys.length := by
    refine nodup_len hn fun key hkey => ?_
    obtain ⟨v, e⟩ := valV_some hkey
    obtain ⟨wd, p, rfl, al⟩ := h key v e
    exact List.mem_flatMap.mpr ⟨wd, by cases wd <;> simp, List.mem_map.mpr ⟨p, node3 hk al.1, rfl⟩⟩
  rw [List.length_map] at le
  have e : allKeys.length = 75 := by decide +kernel
  have : (1000 : Nat) < sizeLine := by decide
  omega
/-! ### the facts below a node -/
theorem tF_node {t : Tp} (ok : FOk t.k t.fs) {p : Pf} (v : Valid t.k p) : t.F (t.k.D - p.1) p.2 = decide (p ∈ t.fs) := by
  have v1 := v.1
  have e : t.k.D - (t.k.D - p.1) = p.1 := by omega
  show (decide (t.k.D - p.1 ≤ t.k.D) && decide ((t.k.D - (t.k.D - p.1), p.2) ∈ ordM t.fs)) = _
  rw [e, decide_eq_true (by omega), Bool.true_and, Bool.eq_iff_iff, decide_eq_true_eq, decide_eq_true_eq]
  exact ordM_mem t.fs p
/-- data of an answer -/
def ansD (x : Nat × Rw) : PyData := .tuple [.int (x.1 : Nat), .tuple (x.2.map pfD)]
theorem ans_dp {K : PySem.W.Frag} {H : Hp} {v : V} {x : Nat × Rw} (h : AnsAt H v (some x)) : Dp K H v (ansD x) := by
  obtain ⟨a, b, as, rfl, h2, h3, h4⟩ := h
  exact .tup (SqT.of h2) (.cons (.int _) (.cons (.tup (SqT.of h3) (dpAll_pfs h4)) .nil))
theorem alike_rows : ∀ xs ys : List Pf, PySem.W.alikeAll (xs.map pfD) (ys.map pfD) = true
  | [], _ => by simp [PySem.W.alikeAll]
  | _ :: _, [] => by simp [PySem.W.alikeAll]
  | x :: xs, y :: ys => by
    simp only [List.map_cons, PySem.W.alikeAll, alike_rows xs ys, Bool.and_true]
    simp [pfD, PySem.W.alike, PySem.W.alikeAll]
theorem ansD_alike (x y : Nat × Rw) : PySem.W.alike (ansD x) (ansD y) = true := by
  simp only [ansD, PySem.W.alike, PySem.W.alikeAll, alike_rows, Bool.and_true]
theorem ansD_alikeAll (xs : List (Nat × Rw)) : PySem.W.AlikeAll (xs.map ansD) := by
  refine ⟨fun x hx y hy => ?_, fun x hx => ?_⟩
  · obtain ⟨a, _, rfl⟩ := List.mem_map.mp hx
    obtain ⟨b, _, rfl⟩ := List.mem_map.mp hy
    exact ansD_alike a b
  · obtain ⟨a, _, rfl⟩ := List.mem_map.mp hx
    intro z
    cases z
theorem ansD_depth : ∀ xs : List (Nat × Rw), PyData.depthAll (xs.map ansD) ≤ 20
  | [] => by simp [PyData.depthAll]
  | x :: xs => by
    have h := ansD_depth xs
    have h2 := depth_pfs x.2
    simp only [List.map_cons, PyData.depthAll]
    have : PyData.depth (ansD x) ≤ 20 := by
      simp only [ansD, PyData.depth, PyData.depthAll]
      omega
    omega
theorem ansD_lt {x y : Nat × Rw} (h : x.1 < y.1) : PySem.W.dataLt (ansD x) (ansD y) = true := by
  unfold PySem.W.dataLt ansD
  simp only [PySem.W.keyToks, PySem.W.keyToksAll]
  have ne : (Sum.inl ((x.1 : Nat) : Int) : Int ⊕ List Nat) ≠ Sum.inl ((y.1 : Nat) : Int) := fun e => by
    have := Sum.inl.inj e
    omega
  have e1 := PySem.W.lex_pre [Sum.inl 1] (Sum.inl ((x.1 : Nat) : Int) :: (Sum.inl 1 :: (PySem.W.keyToksAll (x.2.map pfD) ++ [Sum.inl 0]))) (Sum.inl ((y.1 : Nat) : Int) :: (Sum.inl 1 :: (PySem.W.keyToksAll (y.2.map pfD) ++ [Sum.inl 0])))
  have e2 := PySem.W.lex_atom ne (Sum.inl 1 :: (PySem.W.keyToksAll (x.2.map pfD) ++ [Sum.inl 0])) (Sum.inl 1 :: (PySem.W.keyToksAll (y.2.map pfD) ++ [Sum.inl 0]))
  refine Eq.trans e1 (Eq.trans e2 ?_)
  exact (PySem.W.dataLt_int (x.1 : Int) (y.1 : Int)).trans (decide_eq_true (by omega))
end Fc

set_option Elab.async false
set_option autoImplicit false
set_option linter.all false
set_option maxRecDepth 100000
/-! Walks: the telling, but for its recursion. -/
namespace Fc
open PySem PySem.Spec PyProof.Rows L2
def endsM (t : Tp) (wd : Wd) (p : Pf) : Bool := match wd with
  | .bare => decide (cntM t.k t.f p = 0)
  | .full => decide (cntM t.k t.f p = 2 ^ (t.k.D - p.1))
  | .needed => !decide (0 < roomM t.k t.lo t.hi p)
  | .lone => decide (p.1 = t.c)
  | .all => false
/-- values and their answers in a list -/
def AnsL (H : Hp) (a : Addr) (rs : List Ans) : Prop := ∃ vs : List V, H a = some (.lst vs) ∧ Paired (AnsAt H) vs rs
theorem ans_same {H H' : Hp} (s : Same H H') {vs : List V} {rs : List Ans} (h : Paired (AnsAt H) vs rs) : Paired (AnsAt H') vs rs := paired_imp (fun _ _ k => (Same.s s).ans k) h
section
variable {P : Program} {w : World} {K : PySem.W.Frag} {mg : Str → Option Value} {base : Heap}
def spIsCell (K : PySem.W.Frag) : Sp := fun vs H Q _ => ∃ (a b : Addr) (t : Tp) (kn : Addr) (p : Pf), vs = [.ref a, .ref b] ∧ TellI K H a t kn ∧ PfAt H b p ∧ Q (.bl (decide (t.c ≤ p.1))) H
theorem ge_dec (a b : Nat) : decide ((b : Int) ≥ (a : Int)) = decide (a ≤ b) := by
  by_cases h : a ≤ b
  · rw [decide_eq_true h]; exact decide_eq_true (by omega)
  · rw [decide_eq_false h]; exact decide_eq_false (by omega)
theorem sc_Telling_is_cell : FnScope ["self", "prefix"] ["self", "prefix"] d_Telling_is_cell.scope := ⟨rfl, rfl, rfl, by decide +kernel, rfl, by decide +kernel, by decide +kernel⟩
theorem ok_Telling_is_cell  (T : Tx K mg) : Ok P w K mg base 1 d_Telling_is_cell ["self", "prefix"] (spIsCell K) := by
  refine T.at_Telling_is_cell.ok sc_Telling_is_cell (fun vs H Q E h => ?_) (fun _ _ _ _ _ _ us hl => match us, hl with | [_, _], _ => rfl) (fun cdv A outer s H vs Q E hr h => ?_)
  · obtain ⟨_, _, _, _, _, rfl, _⟩ := h; rfl
  · obtain ⟨a, b, t, kn, p, rfl, ⟨dx, cl, sp, fa, bo, ho, hs, hT, _⟩, hp, q⟩ := h
    refine ⟨_, pss_one (ps_ret (pe_cmpR op_ge (pe_ix ix_tup (pv 1) pe_int (fun _ _ => rfl)) (pe_fld (pv 0) rfl) (nomark _))), ?_⟩
    refine ⟨_, rfl, _, _, 0, _, rfl, rfl, hp.sq, atI_nat (j := 0) rfl, _, rfl, _, _, _, _, _, rfl, hT, T.c_Telling, T.n_Telling_fineness, lTelling_fineness, _, _, rfl, rfl, ?_⟩
    show Q (V.bl (decide ((p.1 : Int) ≥ (t.c : Int)))) H
    rw [ge_dec]
    exact q
def spIsNeeded (K : PySem.W.Frag) : Sp := fun vs H Q _ => ∃ (a b : Addr) (t : Tp) (kn : Addr) (p : Pf), vs = [.ref a, .ref b] ∧ TellI K H a t kn ∧ PfAt H b p ∧ Valid t.k p ∧ ∀ H', Same H H' → Q (.bl (decide (0 < roomM t.k t.lo t.hi p))) H'
theorem sc_Telling_is_needed : FnScope ["self", "prefix"] ["self", "prefix"] d_Telling_is_needed.scope := ⟨rfl, rfl, rfl, by decide +kernel, rfl, by decide +kernel, by decide +kernel⟩
theorem ok_Telling_is_needed  (T : Tx K mg) : Ok P w K mg base 5 d_Telling_is_needed ["self", "prefix"] (spIsNeeded K) := by
  refine T.at_Telling_is_needed.ok sc_Telling_is_needed (fun vs H Q E h => ?_) (fun _ _ _ _ _ _ us hl => match us, hl with | [_, _], _ => rfl) (fun cdv A outer s H vs Q E hr h => ?_)
  · obtain ⟨_, _, _, _, _, rfl, _⟩ := h; rfl
  · obtain ⟨a, b, t, kn, p, rfl, ⟨dx, cl, sp, fa, bo, ho, hs, hT, _, _, _, _, hB, _⟩, hp, v, q⟩ := h
    obtain ⟨dxb, spb, al, ah, hBi, _⟩ := id hB.1
    refine ⟨_, pss_one (ps_ret (pe_cmpR op_gt (pe_mc (pe_fld (pv 0) rfl) (ok_Box_room T) hr (by first | decide | omega) T.c_Box T.t_Box_room (pa_cons (pv 1) pa_nil)) pe_int (nomark _))), ?_⟩
    refine ⟨_, rfl, _, _, _, _, _, rfl, hT, T.c_Telling, T.n_Telling_box, lTelling_box, _, _, _, rfl, hBi, (by kernel_rfl), _, rfl, bo, b, t.k, t.lo, t.hi, p, rfl, hB.1, hp, v.1, fun H1 s1 => ⟨_, _, rfl, rfl, ?_⟩⟩
    show Q (V.bl (decide (((roomM t.k t.lo t.hi p : Nat) : Int) > 0))) H1
    have e : decide (((roomM t.k t.lo t.hi p : Nat) : Int) > 0) = decide (0 < roomM t.k t.lo t.hi p) := by
      by_cases h : 0 < roomM t.k t.lo t.hi p
      · rw [decide_eq_true h]; exact decide_eq_true (by omega)
      · rw [decide_eq_false h]; exact decide_eq_false (by omega)
    rw [e]
    exact q H1 s1
/-! ### ends -/
def spEnds (K : PySem.W.Frag) : Sp := fun vs H Q _ => ∃ (a b : Addr) (t : Tp) (kn : Addr) (wd : Wd) (p : Pf), vs = [.ref a, .str (wStr wd), .ref b] ∧ TellI K H a t kn ∧ PfAt H b p ∧ Valid t.k p ∧ ∀ H', Same H H' → Q (.bl (endsM t wd p)) H'
theorem str_dec (a b : Wd) : decide (V.str (wStr a) = V.str (wStr b)) = decide (a = b) := by
  by_cases h : a = b
  · rw [h]; simp
  · rw [decide_eq_false h]
    exact decide_eq_false fun e => h (wStr_inj (by injection e))
theorem str_decB (a : Wd) : decide (V.str (wStr a) = V.str "bare") = decide (a = .bare) := str_dec a .bare
theorem str_decF (a : Wd) : decide (V.str (wStr a) = V.str "full") = decide (a = .full) := str_dec a .full
theorem str_decN (a : Wd) : decide (V.str (wStr a) = V.str "needed") = decide (a = .needed) := str_dec a .needed
theorem str_decL (a : Wd) : decide (V.str (wStr a) = V.str "lone") = decide (a = .lone) := str_dec a .lone
theorem sc_Telling_ends : FnScope ["self", "word", "prefix", "count"] ["self", "word", "prefix"] d_Telling_ends.scope := ⟨rfl, rfl, rfl, by decide +kernel, rfl, by decide +kernel, by decide +kernel⟩
theorem ok_Telling_ends  (T : Tx K mg) : Ok P w K mg base 6 d_Telling_ends ["self", "word", "prefix"] (spEnds K) := by
  refine T.at_Telling_ends.ok sc_Telling_ends (fun vs H Q E h => ?_) (fun _ _ _ _ _ _ us hl => match us, hl with | [_, _, _], _ => rfl) (fun cdv A outer s H vs Q E hr h => ?_)
  · obtain ⟨_, _, _, _, _, _, rfl, _⟩ := h; rfl
  · obtain ⟨a, b, t, kn, wd, p, rfl, hTe, hp, v, q⟩ := h
    obtain ⟨dx, cl, sp, fa, bo, ho, hs, hT, hC, hS, _⟩ := id hTe
    obtain ⟨dxc, spc, roc, hCi, _⟩ := id hC
    obtain ⟨dxs, hSi⟩ := hS.2
    refine ⟨_, pss_cons (ps_set (i := 3) sc_Telling_ends.nd rfl (Or.inl rfl) (pe_mc (pe_fld (pv 0) rfl) (ok_Cloud_count T) hr (by first | decide | omega) T.c_Cloud T.t_Cloud_count (pa_cons (pv 2) pa_nil))) (pss_cons (ps_if (pt_cmpR op_eq (pv 1) pe_str (nomark _)) (pss_one (ps_ret (pe_cmpR op_eq (pv 3) pe_int (nomark _)))) (pss_nil)) (pss_cons (ps_if (pt_cmpR op_eq (pv 1) pe_str (nomark _)) (pss_one (ps_ret (pe_cmpR op_eq (pv 3) (pe_mc (pe_fld (pv 0) rfl) (ok_Space_size T) hr (by first | decide | omega) T.c_Space T.t_Space_size (pa_cons (pv 2) pa_nil)) (nomark _)))) (pss_nil)) (pss_cons (ps_if (pt_cmpR op_eq (pv 1) pe_str (nomark _)) (pss_one (ps_ret (pe_not (pe_mc (pv 0) (ok_Telling_is_needed T) hr (by first | decide | omega) T.c_Telling T.t_Telling_is_needed (pa_cons (pv 2) pa_nil))))) (pss_nil)) (pss_one (ps_ret (pe_and (pe_cmpR op_eq (pv 1) pe_str (nomark _)) (pe_one (pe_cmpR op_eq (pe_ix ix_tup (pv 2) pe_int (fun _ _ => rfl)) (pe_fld (pv 0) rfl) (nomark _))))))))), ?_⟩
    refine ⟨_, rfl, _, _, _, _, _, rfl, hT, T.c_Telling, T.n_Telling_cloud, lTelling_cloud, _, _, _, rfl, hCi, (by kernel_rfl), _, rfl, cl, b, t.k, t.f, p, rfl, hC, hp, v, ?_⟩
    refine ⟨_, rfl, rfl, _, rfl, ?_⟩
    rw [str_decB]
    by_cases e1 : wd = .bare
    · subst e1
      refine iteT ⟨_, rfl, rfl, ?_⟩
      show Q (V.bl (decide (V.int ((cntM t.k t.f p : Nat) : Int) = V.int ((0 : Nat) : Int)))) H
      rw [int_dec]
      exact q H (Same.refl _)
    rw [decide_eq_false e1]
    refine iteF ⟨_, rfl, rfl, _, rfl, ?_⟩
    rw [str_decF]
    by_cases e2 : wd = .full
    · subst e2
      refine iteT ⟨_, rfl, _, rfl, _, _, _, _, _, rfl, hT, T.c_Telling, T.n_Telling_space, lTelling_space, _, _, _, rfl, hSi, (by kernel_rfl), _, rfl, sp, b, t.k, p, rfl, hS, hp, v.1, rfl, ?_⟩
      show Q (V.bl (decide (V.int ((cntM t.k t.f p : Nat) : Int) = V.int ((2 ^ (t.k.D - p.1) : Nat) : Int)))) H
      rw [int_dec]
      exact q H (Same.refl _)
    rw [decide_eq_false e2]
    refine iteF ⟨_, rfl, rfl, _, rfl, ?_⟩
    rw [str_decN]
    by_cases e3 : wd = .needed
    · subst e3
      exact iteT ⟨_, rfl, _, _, _, rfl, hT, (by kernel_rfl), _, rfl, a, b, t, kn, p, rfl, hTe, hp, v, fun H1 s1 => ⟨_, rfl, q H1 s1⟩⟩
    rw [decide_eq_false e3]
    refine iteF ⟨_, rfl, rfl, _, rfl, ?_⟩
    rw [str_decL]
    by_cases e4 : wd = .lone
    · subst e4
      refine iteT ⟨_, rfl, _, _, 0, _, rfl, rfl, hp.sq, atI_nat (j := 0) rfl, _, rfl, _, _, _, _, _, rfl, hT, T.c_Telling, T.n_Telling_fineness, lTelling_fineness, rfl, ?_⟩
      show Q (V.bl (decide (V.int ((p.1 : Nat) : Int) = V.int ((t.c : Nat) : Int)))) H
      rw [int_dec]
      exact q H (Same.refl _)
    rw [decide_eq_false e4]
    refine iteF ?_
    have e5 : wd = .all := by cases wd <;> first | rfl | contradiction
    subst e5
    exact q H (Same.refl _)
/-! ### least -/
def spLeast : Sp := fun vs H Q _ => ∃ (x : V) (l : Addr) (rs : List Ans), vs = [x, .ref l] ∧ AnsL H l rs ∧ rs.length ≤ 10 ∧ ∀ H' v r, Same H H' → AnsAt H' v r → IsLeast rs r → Q v H'
theorem ans_none {H : Hp} {v : V} {r : Ans} (h : AnsAt H v r) : decide (v = .non) = decide (r = none) := by
  cases r with
  | none => rw [show v = .non from h]; rfl
  | some x =>
    obtain ⟨a, b, as, rfl, _⟩ := h
    rfl
def somes (rs : List Ans) : List (Nat × Rw) := rs.filterMap id
theorem somes_app (xs : List Ans) (r : Ans) : somes (xs ++ [r]) = somes xs ++ (match r with | none => [] | some x => [x]) := by
  unfold somes
  rw [List.filterMap_append]
  cases r <;> rfl
theorem somes_len (xs : List Ans) : (somes xs).length ≤ xs.length := List.length_filterMap_le _ _
theorem dpAll_ans {K : PySem.W.Frag} {H : Hp} : ∀ {vs : List V} {xs : List (Nat × Rw)}, Paired (fun v x => AnsAt H v (some x)) vs xs → DpAll K H vs (xs.map ansD)
  | _, _, .nil => .nil
  | _, _, .cons h t => .cons (ans_dp h) (dpAll_ans t)
theorem eqv_lst_nil' (ds : List PyData) : PyData.eqv (.list ds) (.list []) = ds.isEmpty := by
  cases ds <;> rfl
theorem canLay_ans : ∀ xs : List (Nat × Rw), PyData.canLayAll0 (xs.map ansD) = true
  | [] => by simp [PyData.canLayAll0]
  | x :: xs => by
    have h := canLay_ans xs
    have h2 := canLay_pfs x.2
    simp only [List.map_cons, PyData.canLayAll0, h, Bool.and_true]
    simp only [ansD, PyData.canLay0, PyData.canLayAll0, h2, Bool.and_true]
theorem shaped_ans (xs : List (Nat × Rw)) : SeqAt.shaped (.list (xs.map ansD)) = true := by
  have h := ansD_depth xs
  show (PyData.canLay0 (.list (xs.map ansD)) && decide (PyData.depth (.list (xs.map ansD)) ≤ 64)) = true
  rw [Bool.and_eq_true]
  refine ⟨by simp only [PyData.canLay0]; exact canLay_ans xs, decide_eq_true ?_⟩
  simp only [PyData.depth]
  omega
theorem mem_somes {rs : List Ans} {x : Nat × Rw} : x ∈ somes rs ↔ some x ∈ rs := by
  unfold somes
  rw [List.mem_filterMap]
  constructor
  · rintro ⟨r, hr, e⟩
    have : r = some x := e
    rw [← this]
    exact hr
  · exact fun h => ⟨_, h, rfl⟩
theorem sc_Telling_least : FnScope ["self", "rows", "some", "row"] ["self", "rows"] d_Telling_least.scope := ⟨rfl, rfl, rfl, by decide +kernel, rfl, by decide +kernel, by decide +kernel⟩
theorem ok_Telling_least  (T : Tx K mg) : Ok P w K mg base 1 d_Telling_least ["self", "rows"] spLeast := by
  refine T.at_Telling_least.ok sc_Telling_least (fun vs H Q E h => ?_) (fun _ _ _ _ _ _ us hl => match us, hl with | [_, _], _ => rfl) (fun cdv A outer s H vs Q E hr h => ?_)
  · obtain ⟨_, _, _, rfl, _⟩ := h; rfl
  · obtain ⟨x, l, rs, rfl, ⟨vs, hl, hvs⟩, l10, q⟩ := h
    refine ⟨_, pss_cons (ps_setLc (i := 2) (own := [("row", 3)]) rfl sc_Telling_least.nd rfl rfl (sw_true rfl rfl rfl (by decide +kernel)) (pi_list (pv 1)) (blkOk_by (own := [("row", 3)]) (N := ["self", "rows", "some", "row"]) (sc := d_Telling_least.scope) (by decide +kernel)) (fun _ _ _ _ _ => pg_name (i := 3) sc_Telling_least.nd rfl (Or.inl rfl)) (fun _ _ _ _ _ => pts_one (pt_cmpR op_notN (pv 3) pe_non (nomark _))) (fun _ _ _ _ _ => pv 3)) (pss_one (ps_ret (pe_ifExp (pt_cmpR (op_neD hr.units) (pv 2) (pe_lst pa_nil) (nomark _)) (pe_callB (cr_PySem.W.minD rfl hr.units) rfl T.f_min (by decide +kernel) (pa_cons (pv 2) pa_nil)) pe_non))), ?_⟩
    refine ⟨_, rfl, l, rfl, ⟨_, SqL.of hl⟩, fun D hD => ?_⟩
    refine lc_list (xs := vs) (fun j H2 => Same H H2 ∧ ∃ ws, H2 D = some (.lst ws) ∧ Paired (fun v x => AnsAt H v (some x)) ws (somes (rs.take j))) ⟨Same.new hD, [], upd_same, .nil⟩ (fun j H2 _ ⟨s2, _⟩ => SqL.of (s2 _ _ hl)) ?_ ?_
    · rintro j y H2 hy ⟨s2, ws, h2, hw⟩
      obtain ⟨r, hr', hyr⟩ := paired_get hvs hy
      refine ⟨rfl, _, rfl, rfl, _, rfl, ?_⟩
      rw [takeGet hr', somes_app, ans_none hyr]
      cases r with
      | none =>
        refine iteF ⟨s2, ws, h2, ?_⟩
        rw [List.append_nil]
        exact hw
      | some z =>
        refine iteT ⟨_, rfl, ws, h2, ?_, same_on s2 hD, ws ++ [y], upd_same, paired_snoc hw hyr⟩
        have h1 := paired_len hw
        have h3 := somes_len (rs.take j)
        have h4 := List.length_take_le j rs
        exact small8 (by rw [h1]; rw [List.length_take] at h3; omega)
    · rintro H2 ⟨s2, ws, h2, hw⟩
      rw [paired_len hvs, List.take_length] at hw
      refine ⟨_, rfl, Nat.zero_le _, fun E1 hE => ?_⟩
      have s3 := Same.new (o := .lst []) hE
      have s13 := s2.trans s3
      have hw3 : Paired (fun v x => AnsAt (upd H2 E1 (.lst [])) v (some x)) ws (somes rs) := paired_imp (fun _ _ k => (Same.s s13).ans k) hw
      refine ⟨.list ((somes rs).map ansD), .list [], .lst (SqL.of (s3 _ _ h2)) (dpAll_ans hw3), .lst (SqL.of upd_same) .nil, shaped_ans _, shaped_lst [], _, rfl, ?_⟩
      rw [eqv_lst_nil']
      cases hx : somes rs with
      | nil =>
        refine iteF (q _ .non none s13 rfl (.inl ⟨rfl, fun r hr' => ?_⟩))
        cases r with
        | none => rfl
        | some z =>
          have := mem_somes.mpr hr'
          rw [hx] at this
          cases this
      | cons x0 xr =>
        rw [hx] at hw3
        refine iteT ⟨_, rfl, D, ws, ansD x0, xr.map ansD, rfl, SqL.of (s3 _ _ h2), dpAll_ans hw3, ansD_alikeAll (x0 :: xr), ansD_depth (x0 :: xr), fun i v m hv hm hmin => ?_⟩
        obtain ⟨z, hz, hvz⟩ := paired_get hw3 hv
        have hm' : ((x0 :: xr).map ansD)[i]? = some m := hm
        rw [List.getElem?_map, hz] at hm'
        obtain rfl := Option.some.inj hm'
        refine q _ v (some z) s13 hvz (.inr ⟨z, rfl, mem_somes.mp (by rw [hx]; exact List.mem_of_getElem? hz), fun u hu => ?_⟩)
        refine Nat.le_of_not_lt fun lt => ?_
        have mu := mem_somes.mpr hu
        rw [hx] at mu
        have := hmin (ansD u) (List.mem_map.mpr ⟨u, mu, rfl⟩)
        rw [ansD_lt lt] at this
        cases this
end
end Fc

set_option Elab.async false
set_option autoImplicit false
set_option linter.all false
set_option maxRecDepth 100000
/-! The telling's answers, node by node: what the mathematics needs of the walk. -/
namespace Fc
open PySem PySem.Spec PyProof.Rows L2
def lf (p : Pf) : Pf := (p.1 + 1, 2 * p.2)
def rt (p : Pf) : Pf := (p.1 + 1, 2 * p.2 + 1)
section
variable {t : Tp} {p : Pf}
theorem hgt_succ (v : p.1 < t.k.D) : t.k.D - p.1 = (t.k.D - (p.1 + 1)) + 1 := by omega
/-- the two halves' answers -/
def BothS (t : Tp) (w : Wd × Wd) (p : Pf) (r : Ans) : Prop := ∃ r1 r2, r = bothM r1 r2 ∧ SpecV t w.1 (lf p) r1 ∧ SpecV t w.2 (rt p) r2
theorem bothM_len {r1 r2 : Ans} {m : Nat} (h1 : ∀ x, r1 = some x → x.2.length + 1 ≤ m) (h2 : ∀ x, r2 = some x → x.2.length + 1 ≤ m) : ∀ x, bothM r1 r2 = some x → x.2.length + 2 ≤ 2 * m := by
  intro x e
  cases r1 with
  | none => cases e
  | some a =>
    cases r2 with
    | none => cases e
    | some b =>
      have e' : some (a.1 + b.1, a.2 ++ b.2) = some x := e
      cases e'
      have := h1 a rfl
      have := h2 b rfl
      show (a.2 ++ b.2).length + 2 ≤ 2 * m
      rw [List.length_append]
      omega
theorem BothS.len {w : Wd × Wd} {r : Ans} (l : p.1 < t.k.D) (b : BothS t w p r) : ∀ x, r = some x → x.2.length + 2 ≤ 2 ^ (t.k.D - p.1 + 1) := by
  obtain ⟨r1, r2, rfl, s1, s2⟩ := b
  have h := bothM_len s1.2 s2.2
  have e : t.k.D - p.1 = (t.k.D - (p.1 + 1)) + 1 := by omega
  rw [e, Nat.pow_succ]
  intro x ex
  have := h x ex
  show x.2.length + 2 ≤ 2 ^ (t.k.D - (lf p).1 + 1) * 2
  omega
theorem BothS.up {w : Wd × Wd} {r : Ans} (l : p.1 < t.c) (hc : t.c ≤ t.k.D) (b : BothS t w p r) : SpecB (X := t.f) (W := t.W) (c := t.h) (D := t.k.D) (F := t.F) w.1 w.2 (t.k.D - (p.1 + 1)) p.2 r := by
  obtain ⟨r1, r2, rfl, ⟨s1, _⟩, ⟨s2, _⟩⟩ := b
  rcases s1 with ⟨_, s1⟩ | ⟨z, _⟩
  · rcases s2 with ⟨_, s2⟩ | ⟨z, _⟩
    · exact specB_of (by omega) s1 s2
    · exact absurd z (by show ¬ t.c < p.1 + 1; omega)
  · exact absurd z (by show ¬ t.c < p.1 + 1; omega)
theorem BothS.down {w : Wd} {r : Ans} (nl : w ≠ .lone) (l : t.c ≤ p.1) (b : BothS t (w, w) p r) :
    (r = some (0, []) ∧ Solve t.f t.W t.h w t.F (t.k.D - (p.1 + 1)) (2 * p.2) ∧ Solve t.f t.W t.h w t.F (t.k.D - (p.1 + 1)) (2 * p.2 + 1)) ∨ (r = none ∧ ¬ (Solve t.f t.W t.h w t.F (t.k.D - (p.1 + 1)) (2 * p.2) ∧ Solve t.f t.W t.h w t.F (t.k.D - (p.1 + 1)) (2 * p.2 + 1))) := by
  obtain ⟨r1, r2, rfl, ⟨s1, _⟩, ⟨s2, _⟩⟩ := b
  rcases s1 with ⟨z, _⟩ | ⟨_, s1⟩
  · exact absurd z (by show ¬ p.1 + 1 ≤ t.c; omega)
  · rcases s2 with ⟨z, _⟩ | ⟨_, s2⟩
    · exact absurd z (by show ¬ p.1 + 1 ≤ t.c; omega)
    · exact specD_both nl s1 s2
/-! ### ends -/
theorem valid_point (v : Valid t.k p) {a : Nat} (h : a / 2 ^ (t.k.D - p.1) = p.2) {l : Nat} (h1 : p.1 ≤ l) (h2 : l ≤ t.k.D) : Valid t.k (l, a / 2 ^ (t.k.D - l)) ∧ isIn (l, a / 2 ^ (t.k.D - l)) p = true := by
  have e1 : t.k.D - p.1 = (t.k.D - l) + (l - p.1) := by omega
  have h3 : a / 2 ^ (t.k.D - l) / 2 ^ (l - p.1) = p.2 := by rw [Nat.div_div_eq_div_mul, ← Nat.pow_add, ← e1]; exact h
  refine ⟨⟨h2, ?_⟩, ?_⟩
  · have v2 := v.2
    have e2 : l = p.1 + (l - p.1) := by omega
    show a / 2 ^ (t.k.D - l) < 2 ^ l
    conv => rhs; rw [e2]
    rw [Nat.pow_add]
    exact (Nat.div_lt_iff_lt_mul (Nat.two_pow_pos _)).mp (by rw [h3]; exact v2)
  · unfold isIn
    rw [Bool.and_eq_true, decide_eq_true_eq, decide_eq_true_eq]
    exact ⟨h1, h3⟩
theorem needed_none (hk : t.k ∈ kinds) (bo : BoxOk t.k t.lo t.hi) (hc : t.c ≤ t.k.D) (v : Valid t.k p) (l : p.1 ≤ t.c) (r : ¬ 0 < roomM t.k t.lo t.hi p) : ∀ a, Blk (t.k.D - p.1) p.2 a → t.W a = false := by
  intro a ha
  obtain ⟨v2, i⟩ := valid_point v ha l hc
  exact decide_eq_false fun z => r (room_up hk bo _ rfl v2 v i z)
theorem needed_all (l : p.1 = t.c) (r : 0 < roomM t.k t.lo t.hi p) : ∀ a, a / 2 ^ t.h = p.2 → t.W a = true := by
  intro a ha
  show decide (0 < roomM t.k t.lo t.hi (t.c, a / 2 ^ t.h)) = true
  rw [ha, ← l]
  exact decide_eq_true r
theorem blk_some (h n : Nat) : Blk h n (n * 2 ^ h) := Nat.mul_div_cancel _ (Nat.two_pow_pos h)
theorem cnt_bare : cntM t.k t.f p = 0 ↔ Cond t.f t.W t.h .bare (Blk (t.k.D - p.1) p.2) := cR_zero_iff
theorem cnt_full : cntM t.k t.f p = 2 ^ (t.k.D - p.1) ↔ Cond t.f t.W t.h .full (Blk (t.k.D - p.1) p.2) := by
  constructor
  · intro e a ha
    have e2 : cR (fun a => t.f a && true) (t.k.D - p.1) p.2 = cR (fun _ => true) (t.k.D - p.1) p.2 := by
      rw [cR_size]
      refine Eq.trans ?_ e
      exact cR_congr fun a _ => Bool.and_true _
    exact cR_full (f := t.f) (g := fun _ => true) e2 a ha rfl
  · intro k
    have e : cR t.f (t.k.D - p.1) p.2 = cR (fun _ => true) (t.k.D - p.1) p.2 := cR_congr fun a ha => k a ha
    exact e.trans (cR_size _ _)
/-- where the program ends, the word holds -/
theorem ends_cond (hk : t.k ∈ kinds) (bo : BoxOk t.k t.lo t.hi) (hc : t.c ≤ t.k.D) {wd : Wd} (al : Allow t wd p) (nl : wd ≠ .lone) (e : endsM t wd p = true) : Cond t.f t.W t.h wd (Blk (t.k.D - p.1) p.2) := by
  cases wd with
  | bare => exact cnt_bare.mp (of_decide_eq_true e)
  | full => exact cnt_full.mp (of_decide_eq_true e)
  | lone => exact absurd rfl nl
  | all => cases e
  | needed =>
    have l : p.1 ≤ t.c := by
      by_cases z : t.c < p.1
      · rcases al.2 z with h | h | h <;> cases h
      · omega
    exact needed_none hk bo hc al.1 l (by simpa [endsM] using e)
theorem ends_not {wd : Wd} (al : Allow t wd p) (nl : wd ≠ .lone) (nn : wd ≠ .needed) (e : endsM t wd p = false) : ¬ Cond t.f t.W t.h wd (Blk (t.k.D - p.1) p.2) := by
  cases wd with
  | bare => exact fun k => of_decide_eq_false e (cnt_bare.mpr k)
  | full => exact fun k => of_decide_eq_false e (cnt_full.mpr k)
  | lone => exact absurd rfl nl
  | all => exact fun k => k _ (blk_some _ _)
  | needed => exact absurd rfl nn
theorem len0 : ∀ x : Nat × Rw, (some (0, []) : Ans) = some x → x.2.length + 1 ≤ 2 ^ (t.k.D - p.1 + 1) := by
  intro x e
  cases e
  exact Nat.two_pow_pos _
theorem specV_ends (hk : t.k ∈ kinds) (bo : BoxOk t.k t.lo t.hi) (hc : t.c ≤ t.k.D) {wd : Wd} (al : Allow t wd p) (e : endsM t wd p = true) : SpecV t wd p (some (0, [])) := by
  refine ⟨?_, len0⟩
  by_cases l : p.1 ≤ t.c
  · by_cases wl : wd = .lone
    · subst wl
      have e1 : p.1 = t.c := of_decide_eq_true e
      exact .inl ⟨l, .inl ⟨rfl, specL_ends (by show t.k.D - p.1 ≤ t.k.D - t.c; omega)⟩⟩
    · exact .inl ⟨l, .inr ⟨wl, specW_ends (ends_cond hk bo hc al wl e)⟩⟩
  · have l' : t.c < p.1 := by omega
    have wl : wd ≠ .lone := by
      rcases al.2 l' with h | h | h <;> rw [h] <;> decide
    exact .inr ⟨l', specD_ends (ends_cond hk bo hc al wl e)⟩
/-! ### told -/
def WithinS (t : Tp) (p : Pf) (x : Nat × Rw) : Prop := SpecI t.f t.W t.h t.k.D t.F (t.k.D - p.1) p.2 x ∧ (t.c ≤ p.1 → x = (0, [])) ∧ x.2.length + 2 ≤ 2 ^ (t.k.D - p.1 + 1)
def ToldS (t : Tp) (p : Pf) (x : Nat × Rw) : Prop := SpecT t.f t.W t.h t.k.D t.F (t.k.D - p.1) p.2 x ∧ (t.c ≤ p.1 → x = if p ∈ t.fs then (0, []) else (1, [p])) ∧ x.2.length + 1 ≤ 2 ^ (t.k.D - p.1 + 1)
theorem told_of (ok : FOk t.k t.fs) (v : Valid t.k p) {x : Nat × Rw} (s : WithinS t p x) : ToldS t p (if p ∈ t.fs then x else (x.1 + 1, p :: x.2)) := by
  obtain ⟨s1, s2, s3⟩ := s
  have h := specT_of (by omega) s1
  rw [tF_node ok v] at h
  have e : t.k.D - (t.k.D - p.1) = p.1 := by have := v.1; omega
  rw [e] at h
  by_cases m : p ∈ t.fs
  · rw [if_pos m]
    rw [decide_eq_true m, if_pos rfl] at h
    exact ⟨h, fun l => by rw [s2 l, if_pos m], by omega⟩
  · rw [if_neg m]
    rw [decide_eq_false m, if_neg (by decide)] at h
    refine ⟨h, fun l => by rw [s2 l, if_neg m], ?_⟩
    show (p :: x.2).length + 1 ≤ _
    rw [List.length_cons]
    omega
theorem within_zero (hk : t.k ∈ kinds) (bo : BoxOk t.k t.lo t.hi) (hc : t.c ≤ t.k.D) (v : Valid t.k p) (h : t.c ≤ p.1 ∨ (cntM t.k t.f p = 0 ∨ cntM t.k t.f p = 2 ^ (t.k.D - p.1)) ∨ (p.1 ≤ t.c ∧ ¬ 0 < roomM t.k t.lo t.hi p)) : WithinS t p (0, []) := by
  have l2 : ([] : Rw).length + 2 ≤ 2 ^ (t.k.D - p.1 + 1) := by
    rw [Nat.pow_succ]
    have := Nat.two_pow_pos (t.k.D - p.1)
    show 0 + 2 ≤ _
    omega
  refine ⟨?_, fun _ => rfl, l2⟩
  rcases h with h | (h | h) | ⟨h1, h2⟩
  · exact specI_ends (wd := .lone) (lone_blk t.f t.W t.h (by show t.k.D - p.1 ≤ t.k.D - t.c; omega))
  · exact specI_ends (wd := .bare) (cnt_bare.mp h)
  · exact specI_ends (wd := .full) (cnt_full.mp h)
  · exact specI_ends (wd := .needed) (needed_none hk bo hc v h1 h2)
def wdsL : List (Wd × Wd) := [(.bare, .bare), (.full, .full), (.lone, .all), (.all, .lone), (.needed, .needed)]
theorem isLeast_len {rs : List Ans} {r : Ans} (l : IsLeast rs r) {m : Nat} (h : ∀ z ∈ rs, ∀ x, z = some x → x.2.length ≤ m) : ∀ x, r = some x → x.2.length ≤ m := by
  intro x e
  rcases l with ⟨rfl, _⟩ | ⟨v, rfl, mem, _⟩
  · cases e
  · cases e
    exact h _ mem _ rfl
theorem within_five (hc : t.c ≤ t.k.D) (l : p.1 < t.c) {rs : List Ans} (h : Paired (fun w r => BothS t w p r) wdsL rs) {r : Ans} (il : IsLeast rs r) : ∃ x, r = some x ∧ WithinS t p x := by
  have lD : p.1 < t.k.D := by omega
  have lens : ∀ z ∈ rs, ∀ x, z = some x → x.2.length + 2 ≤ 2 ^ (t.k.D - p.1 + 1) := by
    intro z hz x e
    obtain ⟨i, hi⟩ := List.getElem?_of_mem hz
    have hi1 := (List.getElem?_eq_some_iff.mp hi).1
    have : ∀ {ws : List (Wd × Wd)} {rs : List Ans} {z : Ans}, Paired (fun w r => BothS t w p r) ws rs → z ∈ rs → ∃ w, BothS t w p z := by
      intro ws rs z h
      induction h with
      | nil => intro m; cases m
      | @cons a b as bs h1 _ ih =>
        intro m
        rcases List.mem_cons.mp m with e | m
        · exact ⟨a, by rw [e]; exact h1⟩
        · exact ih m
    obtain ⟨w, b⟩ := this h hz
    exact b.len lD x e
  match rs, h with
  | [r1, r2, r3, r4, r5], .cons b1 (.cons b2 (.cons b3 (.cons b4 (.cons b5 .nil)))) =>
    obtain ⟨x, rfl, s⟩ := specI_within (by show t.k.D - t.c ≤ t.k.D - (p.1 + 1); omega) (b1.up l hc) (b2.up l hc) (b3.up l hc) (b4.up l hc) (b5.up l hc) il
    refine ⟨x, rfl, ?_, fun z => absurd z (by omega), ?_⟩
    · rw [hgt_succ lD]
      exact s
    · rcases il with ⟨e, _⟩ | ⟨v, e, mem, _⟩
      · cases e
      · cases e
        exact lens _ mem _ rfl
/-! ### the ways -/
theorem halves_in {h0 n h' n' : Nat} (i : Ins (h0 + 1) n h' n') (l : h' < h0 + 1) : True := trivial
theorem no_inner (ok : FOk t.k t.fs) (v : Valid t.k p) (h : ¬ ∃ q ∈ t.fs, isIn q p = true ∧ q ≠ p) : ∀ h' n', Ins (t.k.D - p.1) p.2 h' n' → h' < t.k.D - p.1 → t.F h' n' = false := by
  intro h' n' i l
  cases e : t.F h' n' with
  | false => rfl
  | true =>
    exfalso
    have e' : (decide (h' ≤ t.k.D) && decide ((t.k.D - h', n') ∈ ordM t.fs)) = true := e
    rw [Bool.and_eq_true, decide_eq_true_eq, decide_eq_true_eq, ordM_mem] at e'
    have e2 : t.k.D - (t.k.D - h') = h' := by omega
    refine h ⟨(t.k.D - h', n'), e'.2, (isIn_iff (D := t.k.D) (by show t.k.D - h' ≤ t.k.D; omega) v.1).mpr (by show Ins _ _ (t.k.D - (t.k.D - h')) n'; rw [e2]; exact i), fun z => ?_⟩
    have : t.k.D - h' = p.1 := congrArg Prod.fst z
    have := v.1
    omega
/-- the answer of a cell, of a node below a cell -/
theorem cell_spec (ok : FOk t.k t.fs) (hc : t.c ≤ t.k.D) {wd : Wd} (nl : wd ≠ .lone) (v : Valid t.k p) (l : t.c ≤ p.1) (hne : ¬ Cond t.f t.W t.h wd (Blk (t.k.D - p.1) p.2)) {x : Nat × Rw} (sx : ToldS t p x) {rs : List Ans}
    (hb : (rs = [] ∧ ¬ ∃ q ∈ t.fs, isIn q p = true ∧ q ≠ p) ∨ (p.1 < t.k.D ∧ ∃ b, rs = [b] ∧ BothS t (wd, wd) p b)) {r : Ans} (il : IsLeast ((if p ∈ t.fs ∨ p.1 = t.c then [some x] else []) ++ rs) r) :
    (p.1 = t.c → SpecW t.f t.W t.h t.k.D t.F wd (t.k.D - p.1) p.2 r) ∧ (t.c < p.1 → SpecD t.f t.W t.h t.F wd (t.k.D - p.1) p.2 r) ∧ ∀ z, r = some z → z.2.length + 1 ≤ 2 ^ (t.k.D - p.1 + 1) := by
  have hv : Halves t.f t.W t.h t.F wd (t.k.D - p.1) p.2 rs := by
    rcases hb with ⟨e, h⟩ | ⟨lD, b, e, h⟩
    · exact .inl ⟨e, no_inner ok v h⟩
    · exact .inr ⟨t.k.D - (p.1 + 1), b, hgt_succ lD, e, h.down nl l⟩
  refine ⟨fun e => ?_, fun lt => ?_, ?_⟩
  · rw [if_pos (.inr e)] at il
    refine specW_cell nl hne sx.1 ?_ hv il
    rw [sx.2.1 l]
    split
    · exact Nat.zero_le _
    · exact Nat.le_refl 1
  · refine specD_cell nl (by show t.k.D - p.1 ≤ t.k.D - t.c; omega) hne hv ?_
    rw [tF_node ok v]
    have ne : ¬ p.1 = t.c := by omega
    by_cases m : p ∈ t.fs
    · rw [if_pos (.inl m), sx.2.1 l, if_pos m] at il
      rw [decide_eq_true m, if_pos rfl]
      exact il
    · rw [if_neg (fun z => z.elim m ne)] at il
      rw [decide_eq_false m, if_neg (by decide)]
      exact il
  · intro z ez
    have hl := isLeast_len il (m := 2 ^ (t.k.D - p.1 + 1) - 1) (fun y hy u eu => by
      rcases List.mem_append.mp hy with m | m
      · split at m
        · rw [List.mem_singleton.mp m] at eu
          cases eu
          have := sx.2.2
          omega
        · cases m
      · rcases hb with ⟨e, _⟩ | ⟨lD, b, e, h⟩
        · rw [e] at m; cases m
        · rw [e] at m
          rw [List.mem_singleton.mp m] at eu
          have := h.len lD u eu
          omega) z ez
    have := Nat.two_pow_pos (t.k.D - p.1 + 1)
    omega
theorem way_spec (hc : t.c ≤ t.k.D) {wd : Wd} (nl : wd ≠ .lone) (l : p.1 < t.c) {x : Nat × Rw} (sx : ToldS t p x) {b : Ans} (sb : BothS t (wd, wd) p b) {r : Ans} (il : IsLeast [some x, b] r) : SpecV t wd p r := by
  have lD : p.1 < t.k.D := by omega
  refine ⟨.inl ⟨by omega, .inr ⟨nl, ?_⟩⟩, ?_⟩
  · have s1 := sx.1
    rw [hgt_succ lD] at s1 ⊢
    exact specW_way nl (by omega) s1 (sb.up l hc) il
  · intro z ez
    have hl := isLeast_len il (m := 2 ^ (t.k.D - p.1 + 1) - 1) (fun y hy u eu => by
      rcases List.mem_cons.mp hy with e | m
      · rw [e] at eu
        cases eu
        have := sx.2.2
        omega
      · rw [List.mem_singleton.mp m] at eu
        have := sb.len lD u eu
        omega) z ez
    have := Nat.two_pow_pos (t.k.D - p.1 + 1)
    omega
theorem lone_spec (hc : t.c ≤ t.k.D) (l : p.1 < t.c) {b1 b2 : Ans} (s1 : BothS t (.lone, .all) p b1) (s2 : BothS t (.all, .lone) p b2) {r : Ans} (il : IsLeast [b1, b2] r) : SpecV t .lone p r := by
  have lD : p.1 < t.k.D := by omega
  refine ⟨.inl ⟨by omega, .inl ⟨rfl, ?_⟩⟩, ?_⟩
  · rw [hgt_succ lD]
    exact specL_way (by show t.k.D - t.c ≤ t.k.D - (p.1 + 1); omega) (s1.up l hc) (s2.up l hc) il
  · intro z ez
    have hl := isLeast_len il (m := 2 ^ (t.k.D - p.1 + 1) - 1) (fun y hy u eu => by
      rcases List.mem_cons.mp hy with e | m
      · rw [e] at eu
        have := s1.len lD u eu
        omega
      · rw [List.mem_singleton.mp m] at eu
        have := s2.len lD u eu
        omega) z ez
    have := Nat.two_pow_pos (t.k.D - p.1 + 1)
    omega
end
end Fc

set_option Elab.async false
set_option autoImplicit false
set_option linter.all false
set_option maxRecDepth 100000
/-! Walks: the recursion of the telling. -/
namespace Fc
open PySem PySem.Spec PyProof.Rows L2
section
variable {P : Program} {w : World} {K : PySem.W.Frag} {mg : Str → Option Value} {base : Heap}
/-- the way of a word at a node lower than n -/
def spWay (P : Program) (w : World) (K : PySem.W.Frag) (n : Nat) : Sp := fun vs H Q _ => ∃ (a b : Addr) (t : Tp) (kn : Addr) (wd : Wd) (p : Pf), vs = [.ref a, .str (wStr wd), .ref b] ∧ TellI K H a t kn ∧ MemoAt P w H kn t ∧ PfAt H b p ∧ Allow t wd p ∧ t.k.D - p.1 < n ∧
  ∀ H' v r, SameS H H' → MemoAt P w H' kn t → AnsAt H' v r → SpecV t wd p r → Q v H'
theorem sc_Telling_way : FnScope ["self", "word", "prefix"] ["self", "word", "prefix"] d_Telling_way.scope := ⟨rfl, rfl, rfl, by decide +kernel, rfl, by decide +kernel, by decide +kernel⟩
theorem way_zero (T : Tx K mg) : Ok P w K mg base 10 d_Telling_way ["self", "word", "prefix"] (spWay P w K 0) := by
  refine T.at_Telling_way.ok sc_Telling_way (fun vs H Q E h => ?_) (fun _ _ _ _ _ _ us hl => match us, hl with | [_, _, _], _ => rfl) (fun cdv A outer s H vs Q E hr h => ?_)
  · obtain ⟨_, _, _, _, _, _, rfl, _⟩ := h; rfl
  · obtain ⟨_, _, t, _, _, p, _, _, _, _, _, l, _⟩ := h
    exact absurd l (Nat.not_lt_zero _)
/-! ### both -/
def spBoth (P : Program) (w : World) (K : PySem.W.Frag) (n : Nat) : Sp := fun vs H Q _ => ∃ (a ws b : Addr) (t : Tp) (kn : Addr) (w1 w2 : Wd) (p : Pf), vs = [.ref a, .ref ws, .ref b] ∧ TellI K H a t kn ∧ MemoAt P w H kn t ∧ H ws = some (.tup [.str (wStr w1), .str (wStr w2)]) ∧ PfAt H b p ∧
  Allow t w1 (lf p) ∧ Allow t w2 (rt p) ∧ p.1 < t.k.D ∧ t.k.D - p.1 < n + 1 ∧ t.k ∈ kinds ∧ ∀ H' v r, SameS H H' → MemoAt P w H' kn t → AnsAt H' v r → BothS t (w1, w2) p r → Q v H'
theorem sc_Telling_both : FnScope ["self", "words", "prefix", "one", "other", "first", "second"] ["self", "words", "prefix"] d_Telling_both.scope := ⟨rfl, rfl, rfl, by decide +kernel, rfl, by decide +kernel, by decide +kernel⟩
theorem ok_Telling_both {n lev : Nat} (W : Ok P w K mg base lev d_Telling_way ["self", "word", "prefix"] (spWay P w K n)) (hlev : 10 ≤ lev) (T : Tx K mg) : Ok P w K mg base (lev + 1) d_Telling_both ["self", "words", "prefix"] (spBoth P w K n) := by
  refine T.at_Telling_both.ok sc_Telling_both (fun vs H Q E h => ?_) (fun _ _ _ _ _ _ us hl => match us, hl with | [_, _, _], _ => rfl) (fun cdv A outer s H vs Q E hr h => ?_)
  · obtain ⟨_, _, _, _, _, _, _, _, rfl, _⟩ := h; rfl
  · obtain ⟨a, ws, b, t, kn, w1, w2, p, rfl, hT, hM, hws, hp, al1, al2, lD, ln, hk, q⟩ := h
    have kl := kinds_le hk
    refine ⟨_, pss_cons (ps_asg (pe_fc (ok_halves_of T) hr (by first | decide | omega) rfl T.g_halves_of (pa_cons (pv 2) pa_nil)) (pg_tup rfl (pgs_cons (pg_name (i := 3) sc_Telling_both.nd rfl (Or.inl rfl)) (pgs_cons (pg_name (i := 4) sc_Telling_both.nd rfl (Or.inl rfl)) pgs_nil)))) (pss_cons (ps_par (i := 5) (j := 6) (by rfl) sc_Telling_both.nd rfl rfl (by decide) rfl rfl (pa_cons (pe_mc (pv 0) W hr (by first | decide | omega) T.c_Telling T.t_Telling_way (pa_cons (pe_ix ix_tup (pv 1) pe_int (fun _ _ => rfl)) (pa_cons (pv 3) pa_nil))) (pa_cons (pe_mc (pv 0) W hr (by first | decide | omega) T.c_Telling T.t_Telling_way (pa_cons (pe_ix ix_tup (pv 1) pe_int (fun _ _ => rfl)) (pa_cons (pv 4) pa_nil))) pa_nil)) (by rfl)) (pss_cons (ps_if (PW.pt (pw_or (pt_cmpR op_isN (pv 5) pe_non (nomark _)) (pw_or1 (pt_cmpR op_isN (pv 6) pe_non (nomark _))))) (pss_one (ps_ret pe_non)) (pss_nil)) (pss_one (ps_ret (pe_tup (pa_cons (pe_op op_add (pe_ix ix_tup (pv 5) pe_int (fun _ _ => rfl)) (pe_ix ix_tup (pv 6) pe_int (fun _ _ => rfl))) (pa_cons (pe_op op_catA (pe_ix ix_tup (pv 5) pe_int (fun _ _ => rfl)) (pe_ix ix_tup (pv 6) pe_int (fun _ _ => rfl))) pa_nil))))))), ?_⟩
    refine ⟨_, rfl, b, p, rfl, hp, fun H1 hb x y s1 hhb hx hy => ⟨hb, _, rfl, SqT.of hhb, rfl, _, _, rfl, _, _, rfl, rfl, ?_⟩⟩
    have hT1 := (Same.s s1).tell hT
    obtain ⟨dx, cl, sp, fa, bo, ho, hs, hTi, _⟩ := id hT1
    refine ⟨_, rfl, _, _, _, rfl, hTi, (by kernel_rfl), _, rfl, ws, _, 0, _, rfl, rfl, SqT.of (s1 _ _ hws), atI_nat (j := 0) rfl, _, rfl, a, x, t, kn, w1, lf p, rfl, hT1, hM.same s1, hx, al1, (by show t.k.D - (p.1 + 1) < n; omega), fun H2 v1 r1 s2 hM2 ha1 sp1 => ?_⟩
    have hT2 := s2.tell hT1
    obtain ⟨dx2, cl2, sp2, fa2, bo2, ho2, hs2, hTi2, _⟩ := id hT2
    refine ⟨_, rfl, _, _, _, rfl, hTi2, (by kernel_rfl), _, rfl, ws, _, 1, _, rfl, rfl, SqT.of (s2 _ _ trivial (s1 _ _ hws)), atI_nat (j := 1) rfl, _, rfl, a, y, t, kn, w2, rt p, rfl, hT2, hM2, s2.pf hy, al2, (by show t.k.D - (p.1 + 1) < n; omega), fun H3 v2 r2 s3 hM3 ha2 sp2 => ⟨_, _, rfl, ?_⟩⟩
    have s13 : SameS H H3 := ((Same.s s1).trans s2).trans s3
    have ha1' := s3.ans ha1
    have fin : BothS t (w1, w2) p (bothM r1 r2) := ⟨r1, r2, rfl, sp1, sp2⟩
    refine ⟨_, rfl, rfl, _, rfl, ?_⟩
    rw [ans_none ha1']
    cases r1 with
    | none => exact iteT (q H3 .non none s13 hM3 rfl fin)
    | some x1 =>
      refine iteF ⟨_, rfl, rfl, _, rfl, ?_⟩
      rw [ans_none ha2]
      cases r2 with
      | none => exact iteT (q H3 .non none s13 hM3 rfl fin)
      | some x2 =>
        obtain ⟨a1, b1, as1, rfl, h11, h12, h13⟩ := ha1'
        obtain ⟨a2, b2, as2, rfl, h21, h22, h23⟩ := ha2
        have l1 := sp1.2 x1 rfl
        have l2 := sp2.2 x2 rfl
        have pw1 : 2 ^ (t.k.D - (lf p).1 + 1) ≤ 2 ^ 4 := Nat.pow_le_pow_right (by decide) (by omega)
        have pw2 : 2 ^ (t.k.D - (rt p).1 + 1) ≤ 2 ^ 4 := Nat.pow_le_pow_right (by decide) (by omega)
        refine iteF ⟨_, rfl, a1, _, 0, _, rfl, rfl, SqT.of h11, atI_nat (j := 0) rfl, _, rfl, a2, _, 0, _, rfl, rfl, SqT.of h21, atI_nat (j := 0) rfl, _, _, rfl, rfl, _, rfl, a1, _, 1, _, rfl, rfl, SqT.of h11, atI_nat (j := 1) rfl, _, rfl, a2, _, 1, _, rfl, rfl, SqT.of h21, atI_nat (j := 1) rfl, ?_⟩
        refine ⟨b1, b2, _, _, rfl, rfl, SqT.of h12, SqT.of h22, ?_, fun e => ?_, fun e1 e2 => ?_, fun e1 e2 g hg => ?_⟩
        · rw [List.length_map, List.length_map, paired_len h13, paired_len h23]
          have h1000 : (1000 : Nat) ≤ sizeLine := by decide
          omega
        · refine ⟨two_line, fun z hz => ?_⟩
          have s4 := Same.new (o := .tup [.int ((x1.1 : Int) + (x2.1 : Int)), .ref b2]) hz
          have e3 : as1 = [] := List.map_eq_nil_iff.mp e
          have e4 : x1.2 = [] := List.length_eq_zero_iff.mp (by rw [← paired_len h13, e3]; rfl)
          refine q _ (.ref z) (some (x1.1 + x2.1, x1.2 ++ x2.2)) (s13.trans (Same.s s4)) (hM3.same s4) ⟨z, b2, as2, rfl, upd_same, s4 _ _ h22, ?_⟩ fin
          show Paired _ as2 (x1.2 ++ x2.2)
          rw [e4]
          exact pfs_same s4 h23
        · refine ⟨two_line, fun z hz => ?_⟩
          have s4 := Same.new (o := .tup [.int ((x1.1 : Int) + (x2.1 : Int)), .ref b1]) hz
          have e3 : as2 = [] := List.map_eq_nil_iff.mp e2
          have e4 : x2.2 = [] := List.length_eq_zero_iff.mp (by rw [← paired_len h23, e3]; rfl)
          refine q _ (.ref z) (some (x1.1 + x2.1, x1.2 ++ x2.2)) (s13.trans (Same.s s4)) (hM3.same s4) ⟨z, b1, as1, rfl, upd_same, s4 _ _ h12, ?_⟩ fin
          show Paired _ as1 (x1.2 ++ x2.2)
          rw [e4, List.append_nil]
          exact pfs_same s4 h13
        · refine ⟨two_line, fun z hz => ?_⟩
          have s4 := (Same.new (o := .tup (as1.map V.ref ++ as2.map V.ref)) hg).trans (Same.new (o := .tup [.int ((x1.1 : Int) + (x2.1 : Int)), .ref g]) hz)
          refine q _ (.ref z) (some (x1.1 + x2.1, x1.2 ++ x2.2)) (s13.trans (Same.s s4)) (hM3.same s4) ⟨z, g, as1 ++ as2, rfl, upd_same, ?_, ?_⟩ fin
          · rw [List.map_append]
            exact Same.new hz _ _ upd_same
          · have : ∀ {as bs : List Addr} {ps qs : List Pf} {H' : Hp}, Paired (PfAt H') as ps → Paired (PfAt H') bs qs → Paired (PfAt H') (as ++ bs) (ps ++ qs) := by
              intro as bs ps qs H' h k
              induction h with
              | nil => exact k
              | cons h1 _ ih => exact .cons h1 ih
            exact this (pfs_same s4 h13) (pfs_same s4 h23)
end
end Fc

set_option Elab.async false
set_option autoImplicit false
set_option linter.all false
set_option maxRecDepth 100000
/-! Walks: the recursion of the telling, within and told. -/
namespace Fc
open PySem PySem.Spec PyProof.Rows L2
theorem in_two (a b : Nat) : inV (nV a) [.int 0, nV b] = (decide (a = 0) || decide (a = b)) := by
  show (((0 : Int) == (a : Int)) || ((((b : Nat) : Int) == (a : Int)) || false)) = _
  rw [Bool.or_false, Bool.eq_iff_iff, Bool.or_eq_true, Bool.or_eq_true, beq_iff_eq, beq_iff_eq, decide_eq_true_eq, decide_eq_true_eq]
  omega
def pairS (w : Wd × Wd) (H : Hp) (a : Addr) : Prop := H a = some (.tup [.str (wStr w.1), .str (wStr w.2)])
theorem ans_sameS {H H' : Hp} (s : SameS H H') {vs : List V} {rs : List Ans} (h : Paired (AnsAt H) vs rs) : Paired (AnsAt H') vs rs := paired_imp (fun _ _ k => s.ans k) h
theorem sameS_on {H H' : Hp} {D : Addr} {o : HO} (s : SameS H H') (h : H D = none) : SameS H (upd H' D o) := fun b z n e => by
  rw [upd_ne (ne_of_none e h)]
  exact s b z n e
/-- a list under way is no part of the memory -/
theorem MemoAt.on {P : Program} {w : World} {H : Hp} {kn D : Addr} {t : Tp} {vs : List V} {ys : List V} (h : MemoAt P w H kn t) (hD : H D = some (.lst vs)) : MemoAt P w (upd H D (.lst ys)) kn t := by
  obtain ⟨kvs, h1, h2, h3⟩ := h
  have nk := nd_not_solid h1 (o := .lst vs) trivial hD
  have st : ∀ b xs, H b = some (.tup xs) → (upd H D (.lst ys)) b = some (.tup xs) := fun b xs e => by rw [upd_ne (ne_of e hD (by intro z; cases z))]; exact e
  refine ⟨kvs, h1.keeps (fun o e => ?_) st, h2, fun key v e => ?_⟩
  · rw [upd_ne nk.symm]; exact e
  · obtain ⟨wd, p, r, e1, e2, e3, e4⟩ := h3 key v e
    refine ⟨wd, p, r, e1, e2, ?_, e4⟩
    cases r with
    | none => exact e3
    | some x =>
      obtain ⟨a, b, as, rfl, g1, g2, g3⟩ := e3
      exact ⟨a, b, as, rfl, st _ _ g1, st _ _ g2, pfs_upd hD g3⟩
theorem ans_upd {H : Hp} {D : Addr} {vs ys : List V} (hD : H D = some (.lst vs)) {v : V} {r : Ans} (h : AnsAt H v r) : AnsAt (upd H D (.lst ys)) v r := by
  have st : ∀ b xs, H b = some (.tup xs) → (upd H D (.lst ys)) b = some (.tup xs) := fun b xs e => by rw [upd_ne (ne_of e hD (by intro z; cases z))]; exact e
  cases r with
  | none => exact h
  | some x =>
    obtain ⟨a, b, as, rfl, g1, g2, g3⟩ := h
    exact ⟨a, b, as, rfl, st _ _ g1, st _ _ g2, pfs_upd hD g3⟩
section
variable {P : Program} {w : World} {K : PySem.W.Frag} {mg : Str → Option Value} {base : Heap}
/-! ### within -/
def spWithin (P : Program) (w : World) (K : PySem.W.Frag) (n : Nat) : Sp := fun vs H Q _ => ∃ (a b : Addr) (t : Tp) (kn : Addr) (p : Pf), vs = [.ref a, .ref b] ∧ TellI K H a t kn ∧ MemoAt P w H kn t ∧ PfAt H b p ∧ Valid t.k p ∧ t.k.D - p.1 < n + 1 ∧
  ∀ H' v x, SameS H H' → MemoAt P w H' kn t → AnsAt H' v (some x) → WithinS t p x → Q v H'
theorem sc_Telling_within : FnScope ["self", "prefix", "count", "ways", "words"] ["self", "prefix"] d_Telling_within.scope := ⟨rfl, rfl, rfl, by decide +kernel, rfl, by decide +kernel, by decide +kernel⟩
theorem ok_Telling_within {n lev : Nat} (W : Ok P w K mg base lev d_Telling_way ["self", "word", "prefix"] (spWay P w K n)) (hlev : 10 ≤ lev) (T : Tx K mg) : Ok P w K mg base (lev + 2) d_Telling_within ["self", "prefix"] (spWithin P w K n) := by
  refine T.at_Telling_within.ok sc_Telling_within (fun vs H Q E h => ?_) (fun _ _ _ _ _ _ us hl => match us, hl with | [_, _], _ => rfl) (fun cdv A outer s H vs Q E hr h => ?_)
  · obtain ⟨_, _, _, _, _, rfl, _⟩ := h; rfl
  · obtain ⟨a, b, t, kn, p, rfl, hT, hM, hp, v, ln, q⟩ := h
    obtain ⟨dx, cl, sp, fa, bo, ho, hs, hTi, hC, hS, hF, ok, hB, hc, hH⟩ := id hT
    obtain ⟨dxc, spc, roc, hCi, _⟩ := id hC
    obtain ⟨dxs, hSi⟩ := hS.2
    have hk := hS.1
    have hb := hB.2.1
    refine ⟨_, pss_cons (ps_set (i := 2) sc_Telling_within.nd rfl (Or.inl rfl) (pe_mc (pe_fld (pv 0) rfl) (ok_Cloud_count T) hr (by first | decide | omega) T.c_Cloud T.t_Cloud_count (pa_cons (pv 1) pa_nil))) (pss_cons (ps_if (PW.pt (pw_or (pt_val (pe_mc (pv 0) (ok_Telling_is_cell T) hr (by first | decide | omega) T.c_Telling T.t_Telling_is_cell (pa_cons (pv 1) pa_nil))) (pw_or (pt_cmpR op_in_seq (pv 2) (pe_tup (pa_cons pe_int (pa_cons (pe_mc (pe_fld (pv 0) rfl) (ok_Space_size T) hr (by first | decide | omega) T.c_Space T.t_Space_size (pa_cons (pv 1) pa_nil)) pa_nil))) (by rfl)) (pw_or1 (pt_not (pt_val (pe_mc (pv 0) (ok_Telling_is_needed T) hr (by first | decide | omega) T.c_Telling T.t_Telling_is_needed (pa_cons (pv 1) pa_nil)))))))) (pss_one (ps_ret (pe_tup (pa_cons pe_int (pa_cons (pe_tup pa_nil) pa_nil))))) (pss_nil)) (pss_cons (ps_set (i := 3) sc_Telling_within.nd rfl (Or.inl rfl) (pe_lst (pa_cons (pe_tup (pa_cons pe_str (pa_cons pe_str pa_nil))) (pa_cons (pe_tup (pa_cons pe_str (pa_cons pe_str pa_nil))) (pa_cons (pe_tup (pa_cons pe_str (pa_cons pe_str pa_nil))) (pa_cons (pe_tup (pa_cons pe_str (pa_cons pe_str pa_nil))) (pa_cons (pe_tup (pa_cons pe_str (pa_cons pe_str pa_nil))) pa_nil))))))) (pss_one (ps_ret (pe_mc (pv 0) (ok_Telling_least T) hr (by first | decide | omega) T.c_Telling T.t_Telling_least (pa_cons (pe_lc (own := [("words", 4)]) rfl sc_Telling_within.nd (pi_list (pv 3)) (blkOk_by (own := [("words", 4)]) (N := ["self", "prefix", "count", "ways", "words"]) (sc := d_Telling_within.scope) (by decide +kernel)) (fun _ _ _ _ _ => pg_name (i := 4) sc_Telling_within.nd rfl (Or.inl rfl)) (fun _ _ _ _ _ => pts_nil) (fun _ _ _ _ _ => pe_mcK (K0 := K) rfl (pv 0) (ok_Telling_both W hlev T) hr (by first | decide | omega) T.c_Telling T.t_Telling_both (pa_cons (pv 4) (pa_cons (pv 1) pa_nil)))) pa_nil)))))), ?_⟩
    refine ⟨_, rfl, _, _, _, _, _, rfl, hTi, T.c_Telling, T.n_Telling_cloud, lTelling_cloud, _, _, _, rfl, hCi, (by kernel_rfl), _, rfl, cl, b, t.k, t.f, p, rfl, hC, hp, v, ?_⟩
    -- nothing is told within
    have zero : ∀ H1, Same H H1 → WithinS t p (0, []) → tRet (tTup (tCons (tC (.int 0)) (tCons (tTup tNil) tNil))) { nx := fun _ _ => False, rt := Q } [] H1 := fun H1 s1 wz => by
      refine ⟨Nat.zero_le _, fun e he => ⟨two_line, fun z hz => ?_⟩⟩
      have s2 := Same.new (o := .tup []) he
      have s3 := s2.trans (Same.new (o := .tup [.int 0, .ref e]) hz)
      exact q _ (.ref z) (0, []) (Same.s (s1.trans s3)) ((hM.same s1).same s3) ⟨z, e, [], rfl, upd_same, Same.new hz _ _ upd_same, .nil⟩ wz
    refine ⟨_, rfl, _, _, _, rfl, hTi, (by kernel_rfl), _, rfl, a, b, t, kn, p, rfl, hT, hp, _, rfl, ?_⟩
    by_cases c1 : t.c ≤ p.1
    · rw [decide_eq_true c1]
      exact iteT (zero H (Same.refl _) (within_zero hk hb hc v (.inl c1)))
    rw [decide_eq_false c1]
    refine iteF ⟨_, rfl, _, rfl, _, _, _, _, _, rfl, hTi, T.c_Telling, T.n_Telling_space, lTelling_space, _, _, _, rfl, hSi, (by kernel_rfl), _, rfl, sp, b, t.k, p, rfl, hS, hp, v.1, two_line, fun u hu => ?_⟩
    have s1 := Same.new (o := .tup [.int 0, .int ((2 ^ (t.k.D - p.1) : Nat) : Int)]) hu
    have ei : (if false = true then !inV (V.int ((cntM t.k t.f p : Nat) : Int)) [.int 0, .int ((2 ^ (t.k.D - p.1) : Nat) : Int)] else inV (V.int ((cntM t.k t.f p : Nat) : Int)) [.int 0, .int ((2 ^ (t.k.D - p.1) : Nat) : Int)]) = (decide (cntM t.k t.f p = 0) || decide (cntM t.k t.f p = 2 ^ (t.k.D - p.1))) := in_two (cntM t.k t.f p) (2 ^ (t.k.D - p.1))
    refine ⟨u, _, rfl, .inr (SqT.of upd_same), rfl, rfl, _, congrArg V.bl ei, ?_⟩
    by_cases c2 : cntM t.k t.f p = 0 ∨ cntM t.k t.f p = 2 ^ (t.k.D - p.1)
    · have e2 : (decide (cntM t.k t.f p = 0) || decide (cntM t.k t.f p = 2 ^ (t.k.D - p.1))) = true := by rw [Bool.or_eq_true, decide_eq_true_eq, decide_eq_true_eq]; exact c2
      rw [e2]
      exact iteT (zero _ s1 (within_zero hk hb hc v (.inr (.inl c2))))
    have e2 : (decide (cntM t.k t.f p = 0) || decide (cntM t.k t.f p = 2 ^ (t.k.D - p.1))) = false := by
      rw [Bool.eq_false_iff]
      intro z
      rw [Bool.or_eq_true, decide_eq_true_eq, decide_eq_true_eq] at z
      exact c2 z
    rw [e2]
    have hT1 := (Same.s s1).tell hT
    refine iteF ⟨_, rfl, _, _, _, rfl, (s1 _ _ hTi), (by kernel_rfl), _, rfl, a, b, t, kn, p, rfl, hT1, hp.same s1, v, fun H2 s2 => ⟨_, rfl, ?_⟩⟩
    have s12 := s1.trans s2
    by_cases c3 : 0 < roomM t.k t.lo t.hi p
    · rw [decide_eq_true c3]
      refine iteF ⟨two_line, fun g1 n1 => ⟨two_line, fun g2 n2 => ⟨two_line, fun g3 n3 => ⟨two_line, fun g4 n4 => ⟨two_line, fun g5 n5 => ⟨(by show 5 ≤ sizeLine; decide), fun L hL => ?_⟩⟩⟩⟩⟩⟩
      have z1 := Same.new (o := .tup [.str "bare", .str "bare"]) n1
      have z2 := Same.new (o := .tup [.str "full", .str "full"]) n2
      have z3 := Same.new (o := .tup [.str "lone", .str "all"]) n3
      have z4 := Same.new (o := .tup [.str "all", .str "lone"]) n4
      have z5 := Same.new (o := .tup [.str "needed", .str "needed"]) n5
      have z6 := Same.new (o := .lst [.ref g1, .ref g2, .ref g3, .ref g4, .ref g5]) hL
      generalize hHL : upd _ L (.lst [.ref g1, .ref g2, .ref g3, .ref g4, .ref g5]) = HL at *
      have s3 : Same H HL := s12.trans (((((z1.trans z2).trans z3).trans z4).trans z5).trans z6)
      have hLL : HL L = some (.lst ([g1, g2, g3, g4, g5].map V.ref)) := by rw [← hHL]; exact upd_same
      have pairs : Paired (fun g w' => pairS w' HL g) [g1, g2, g3, g4, g5] wdsL :=
        .cons (z6 _ _ (z5 _ _ (z4 _ _ (z3 _ _ (z2 _ _ upd_same))))) (.cons (z6 _ _ (z5 _ _ (z4 _ _ (z3 _ _ upd_same)))) (.cons (z6 _ _ (z5 _ _ (z4 _ _ upd_same))) (.cons (z6 _ _ (z5 _ _ upd_same)) (.cons (z6 _ _ upd_same) .nil))))
      refine ⟨_, rfl, _, _, _, rfl, (s3 _ _ hTi), (by kernel_rfl), _, rfl, L, rfl, ⟨_, SqL.of hLL⟩, fun D hD => ?_⟩
      have lD : p.1 < t.k.D := by omega
      have pc : p.1 < t.c := by omega
      have vh := valid_halves v lD
      refine lc_list (xs := [g1, g2, g3, g4, g5].map V.ref) (fun i H3 => SameS HL H3 ∧ MemoAt P w H3 kn t ∧ ∃ (vs : List V) (rs : List Ans), H3 D = some (.lst vs) ∧ Paired (AnsAt H3) vs rs ∧ Paired (fun w' r => BothS t w' p r) (wdsL.take i) rs)
        ⟨Same.s (Same.new hD), (hM.same s3).same (Same.new hD), [], [], upd_same, .nil, .nil⟩ (fun i H3 _ ⟨s4, _⟩ => SqL.of (s4 _ _ trivial hLL)) ?_ ?_
      · rintro i y H3 hy ⟨s4, hM4, vs, rs, h4, hv4, hb4⟩
        obtain ⟨g, hg, rfl⟩ := mapGet hy
        obtain ⟨w', hw', hgw⟩ := paired_get pairs hg
        have s34 := (Same.s s3).trans s4
        have al : Allow t w'.1 (lf p) ∧ Allow t w'.2 (rt p) := ⟨⟨vh.1, fun z => absurd z (by show ¬ t.c < p.1 + 1; omega)⟩, ⟨vh.2, fun z => absurd z (by show ¬ t.c < p.1 + 1; omega)⟩⟩
        have hT4 := s34.tell hT
        obtain ⟨dx4, cl4, sp4, fa4, bo4, ho4, hs4, hTi4, _⟩ := id hT4
        refine ⟨rfl, _, rfl, _, _, _, rfl, hTi4, (by kernel_rfl), _, rfl, _, rfl, a, g, b, t, kn, w'.1, w'.2, p, rfl, hT4, hM4, s4 _ _ trivial hgw, s34.pf hp, al.1, al.2, lD, ln, hk, fun H5 v5 r5 s5 hM5 ha5 hb5 => ?_⟩
        have h5 := s5 D (.lst vs) trivial h4
        refine ⟨vs, h5, small8 ?_, sameS_on (s4.trans s5) (by rw [← hHL] at hD ⊢; exact hD), hM5.on h5, vs ++ [v5], rs ++ [r5], upd_same, ?_, ?_⟩
        · rw [paired_len hv4, ← paired_len hb4, List.length_take]
          show min i 5 ≤ 20
          omega
        · exact paired_snoc (paired_imp (fun _ _ k => ans_upd h5 k) (ans_sameS s5 hv4)) (ans_upd h5 ha5)
        · rw [takeGet hw']
          exact paired_snoc hb4 hb5
      · rintro H3 ⟨s4, hM4, vs, rs, h4, hv4, hb4⟩
        have s34 := (Same.s s3).trans s4
        have hb5 : Paired (fun w' r => BothS t w' p r) wdsL rs := hb4
        refine ⟨.ref a, D, rs, rfl, ⟨vs, h4, hv4⟩, ?_, fun H5 v5 r5 s5 ha5 il => ?_⟩
        · rw [← paired_len hb5]
          decide
        · obtain ⟨x, rfl, wx⟩ := within_five hc pc hb5 il
          exact q H5 v5 x (s34.trans (Same.s s5)) (hM4.same s5) ha5 wx
    · rw [decide_eq_false c3]
      exact iteT (zero _ s12 (within_zero hk hb hc v (.inr (.inr ⟨by omega, c3⟩))))
end
end Fc

set_option Elab.async false
set_option autoImplicit false
set_option linter.all false
set_option maxRecDepth 100000
/-! Walks: told, cells, ways. -/
namespace Fc
open PySem PySem.Spec PyProof.Rows L2
theorem sameS_memo {P : Program} {w : World} {H : Hp} {kn : Addr} {kvs : List (WK × V)} (x : ND P w H kn kvs) (ob : HO) : SameS H (upd H kn ob) := fun b o n e => by
  rw [upd_ne (nd_not_solid x n e)]
  exact e
section
variable {P : Program} {w : World} {K : PySem.W.Frag} {mg : Str → Option Value} {base : Heap}
/-! ### told -/
def spTold (P : Program) (w : World) (K : PySem.W.Frag) (n : Nat) : Sp := fun vs H Q _ => ∃ (a b : Addr) (t : Tp) (kn : Addr) (p : Pf), vs = [.ref a, .ref b] ∧ TellI K H a t kn ∧ MemoAt P w H kn t ∧ PfAt H b p ∧ Valid t.k p ∧ t.k.D - p.1 < n + 1 ∧
  ∀ H' v x, SameS H H' → MemoAt P w H' kn t → AnsAt H' v (some x) → ToldS t p x → Q v H'
theorem sc_Telling_told : FnScope ["self", "prefix", "many", "rows"] ["self", "prefix"] d_Telling_told.scope := ⟨rfl, rfl, rfl, by decide +kernel, rfl, by decide +kernel, by decide +kernel⟩
theorem ok_Telling_told {n lev : Nat} (W : Ok P w K mg base lev d_Telling_way ["self", "word", "prefix"] (spWay P w K n)) (hlev : 10 ≤ lev) (T : Tx K mg) : Ok P w K mg base (lev + 3) d_Telling_told ["self", "prefix"] (spTold P w K n) := by
  refine T.at_Telling_told.ok sc_Telling_told (fun vs H Q E h => ?_) (fun _ _ _ _ _ _ us hl => match us, hl with | [_, _], _ => rfl) (fun cdv A outer s H vs Q E hr h => ?_)
  · obtain ⟨_, _, _, _, _, rfl, _⟩ := h; rfl
  · obtain ⟨a, b, t, kn, p, rfl, hT, hM, hp, v, ln, q⟩ := h
    have hu := hu_of hr
    obtain ⟨dx, cl, sp, fa, bo, ho, hs, hTi, hC, hS, hF, ok, hB, hc, hH⟩ := id hT
    have kl := kinds_le hS.1
    refine ⟨_, pss_cons (ps_asg (pe_mc (pv 0) (ok_Telling_within W hlev T) hr (by first | decide | omega) T.c_Telling T.t_Telling_within (pa_cons (pv 1) pa_nil)) (pg_tup rfl (pgs_cons (pg_name (i := 2) sc_Telling_told.nd rfl (Or.inl rfl)) (pgs_cons (pg_name (i := 3) sc_Telling_told.nd rfl (Or.inl rfl)) pgs_nil)))) (pss_one (ps_ret (pe_ifExp (pt_cmp (pc_din hu (pv 1) (pe_fld (pv 0) rfl))) (pe_tup (pa_cons (pv 2) (pa_cons (pv 3) pa_nil))) (pe_tup (pa_cons (pe_op op_add (pv 2) pe_int) (pa_cons (pe_tup (pa_cons (pv 1) (pa_star (pv 3) pa_nil))) pa_nil)))))), ?_⟩
    refine ⟨_, rfl, _, _, _, rfl, hTi, (by kernel_rfl), _, rfl, a, b, t, kn, p, rfl, hT, hM, hp, v, ln, fun H1 v1 x s1 hM1 ha wx => ?_⟩
    obtain ⟨a1, b1, as, rfl, h1, h2, h3⟩ := ha
    refine ⟨a1, _, rfl, SqT.of h1, rfl, _, _, rfl, _, _, rfl, rfl, ?_⟩
    have hF1 := s1 fa (.dT (factD t.k t.f t.fs)) trivial hF
    have dg := DGet.t hF1 (s1.pf hp).key
    rw [valV_fact] at dg
    refine ⟨_, rfl, _, rfl, _, _, _, _, _, rfl, (s1 _ _ trivial hTi), T.c_Telling, T.n_Telling_facts, lTelling_facts, fa, _, rfl, dg, _, rfl, ?_⟩
    have tx := told_of ok v wx
    have pw1 : 2 ^ (t.k.D - p.1 + 1) ≤ 2 ^ 4 := Nat.pow_le_pow_right (by decide) (by omega)
    by_cases m : p ∈ t.fs
    · rw [if_pos m] at tx ⊢
      refine iteT ⟨_, rfl, _, rfl, two_line, fun z hz => ?_⟩
      have s2 := Same.new (o := .tup [.int (x.1 : Nat), .ref b1]) hz
      exact q _ (.ref z) x (s1.trans (Same.s s2)) (hM1.same s2) ⟨z, b1, as, rfl, upd_same, s2 _ _ h2, pfs_same s2 h3⟩ tx
    · rw [if_neg m] at tx ⊢
      refine iteF ⟨_, rfl, _, _, rfl, rfl, _, rfl, _, rfl, b1, _, rfl, SqT.of h2, ?_, fun z hz => ⟨two_line, fun z2 hz2 => ?_⟩⟩
      · have := wx.2.2
        have e : (as.map V.ref).length = x.2.length := by rw [List.length_map, paired_len h3]
        have h1000 : (1000 : Nat) ≤ sizeLine := by decide
        show (V.ref b :: (as.map V.ref ++ [])).length ≤ sizeLine
        rw [List.append_nil, List.length_cons, e]
        omega
      · have s2 := (Same.new (o := .tup (V.ref b :: (as.map V.ref ++ []))) hz)
        have s3 := Same.new (o := .tup [.int ((x.1 : Int) + 1), .ref z]) hz2
        have s23 := s2.trans s3
        refine q _ (.ref z2) (x.1 + 1, p :: x.2) (s1.trans (Same.s s23)) (hM1.same s23) ⟨z2, z, b :: as, rfl, upd_same, s3 _ _ ?_, ?_⟩ tx
        · rw [List.append_nil]
          exact upd_same
        · exact .cons ((s1.pf hp).same s23) (pfs_same s23 h3)
/-! ### a cell, a node below one -/
def spCellWay (P : Program) (w : World) (K : PySem.W.Frag) (n : Nat) : Sp := fun vs H Q _ => ∃ (a b : Addr) (t : Tp) (kn : Addr) (wd : Wd) (p : Pf), vs = [.ref a, .str (wStr wd), .ref b] ∧ TellI K H a t kn ∧ MemoAt P w H kn t ∧ PfAt H b p ∧ Valid t.k p ∧ (wd = .bare ∨ wd = .full ∨ wd = .all) ∧ t.c ≤ p.1 ∧ ¬ Cond t.f t.W t.h wd (Blk (t.k.D - p.1) p.2) ∧ t.k.D - p.1 < n + 1 ∧
  ∀ H' v r, SameS H H' → MemoAt P w H' kn t → AnsAt H' v r → ((p.1 = t.c → SpecW t.f t.W t.h t.k.D t.F wd (t.k.D - p.1) p.2 r) ∧ (t.c < p.1 → SpecD t.f t.W t.h t.F wd (t.k.D - p.1) p.2 r) ∧ ∀ z, r = some z → z.2.length + 1 ≤ 2 ^ (t.k.D - p.1 + 1)) → Q v H'
theorem sc_Telling_cell_way : FnScope ["self", "word", "prefix", "rows"] ["self", "word", "prefix"] d_Telling_cell_way.scope := ⟨rfl, rfl, rfl, by decide +kernel, rfl, by decide +kernel, by decide +kernel⟩
theorem ok_Telling_cell_way {n lev : Nat} (W : Ok P w K mg base lev d_Telling_way ["self", "word", "prefix"] (spWay P w K n)) (hlev : 10 ≤ lev) (T : Tx K mg) : Ok P w K mg base (lev + 4) d_Telling_cell_way ["self", "word", "prefix"] (spCellWay P w K n) := by
  refine T.at_Telling_cell_way.ok sc_Telling_cell_way (fun vs H Q E h => ?_) (fun _ _ _ _ _ _ us hl => match us, hl with | [_, _, _], _ => rfl) (fun cdv A outer s H vs Q E hr h => ?_)
  · obtain ⟨_, _, _, _, _, _, rfl, _⟩ := h; rfl
  · obtain ⟨a, b, t, kn, wd, p, rfl, hT, hM, hp, v, w3, l, hne, ln, q⟩ := h
    have hu := hu_of hr
    obtain ⟨dx, cl, sp, fa, bo, ho, hs, hTi, hC, hS, hF, ok, hB, hc, hH, hHo⟩ := id hT
    have hk := hS.1
    have nl : wd ≠ .lone := by rcases w3 with e | e | e <;> rw [e] <;> decide
    refine ⟨_, pss_cons (ps_set (i := 3) sc_Telling_cell_way.nd rfl (Or.inl rfl) (pe_lst pa_nil)) (pss_cons (ps_cut (ps_if (PW.pt (pw_or (pt_cmp (pc_din hu (pv 2) (pe_fld (pv 0) rfl))) (pw_or1 (pt_cmpR op_eq (pe_ix ix_tup (pv 2) pe_int (fun _ _ => rfl)) (pe_fld (pv 0) rfl) (nomark _))))) (pss_one (ps_expr (pe_bm PySem.F.plainAttrs_list PySem.F.slot_list_append PySem.F.type_list_append mt_append (pv 3) (pa_cons (pe_mc (pv 0) (ok_Telling_told W hlev T) hr (by first | decide | omega) T.c_Telling T.t_Telling_told (pa_cons (pv 2) pa_nil)) pa_nil)))) (pss_nil))) (pss_cons (ps_cut (ps_if (pt_cmp (pc_din hu (pv 2) (pe_fld (pv 0) rfl))) (pss_one (ps_expr (pe_bm PySem.F.plainAttrs_list PySem.F.slot_list_append PySem.F.type_list_append mt_append (pv 3) (pa_cons (pe_mc (pv 0) (ok_Telling_both W hlev T) hr (by first | decide | omega) T.c_Telling T.t_Telling_both (pa_cons (pe_tup (pa_cons (pv 1) (pa_cons (pv 1) pa_nil))) (pa_cons (pv 2) pa_nil))) pa_nil)))) (pss_nil))) (pss_one (ps_ret (pe_mc (pv 0) (ok_Telling_least T) hr (by first | decide | omega) T.c_Telling T.t_Telling_least (pa_cons (pv 3) pa_nil)))))), ?_⟩
    refine ⟨Nat.zero_le _, fun L hL => ?_⟩
    have s0 := Same.new (o := .lst []) hL
    have x0 : ToldS t p (if p ∈ t.fs then (0, []) else (1, [p])) := by
      have := told_of ok v (within_zero hk hB.2.1 hc v (.inl l))
      by_cases m : p ∈ t.fs
      · rw [if_pos m] at this ⊢; exact this
      · rw [if_neg m] at this ⊢; exact this
    refine ⟨fun σ H2 => σ = [some (.ref a), some (.str (wStr wd)), some (.ref b), some (.ref L)] ∧ SameS H H2 ∧ MemoAt P w H2 kn t ∧ ∃ vs x, ToldS t p x ∧ H2 L = some (.lst vs) ∧ Paired (AnsAt H2) vs (if p ∈ t.fs ∨ p.1 = t.c then [some x] else []), ?_, ?_⟩
    · have dg := DGet.t (s0 _ _ hF) (hp.same s0).key
      rw [valV_fact] at dg
      have step : ∀ (q1 : p ∈ t.fs ∨ p.1 = t.c) {H4 : Hp} {v4 : V} {x : Nat × Rw}, SameS (upd H L (.lst [])) H4 → MemoAt P w H4 kn t → AnsAt H4 v4 (some x) → ToldS t p x →
          (SameS H (upd H4 L (.lst ([] ++ [v4]))) ∧ MemoAt P w (upd H4 L (.lst ([] ++ [v4]))) kn t ∧ ∃ vs x, ToldS t p x ∧ (upd H4 L (.lst ([] ++ [v4]))) L = some (.lst vs) ∧ Paired (AnsAt (upd H4 L (.lst ([] ++ [v4])))) vs (if p ∈ t.fs ∨ p.1 = t.c then [some x] else [])) := by
        intro q1 H4 v4 x s4 hM4 ha tx
        have h4 := s4 L (.lst []) trivial upd_same
        refine ⟨sameS_on ((Same.s s0).trans s4) hL, hM4.on h4, [v4], x, tx, upd_same, ?_⟩
        rw [if_pos q1]
        exact .cons (ans_upd h4 ha) .nil
      refine ⟨_, rfl, _, rfl, _, _, _, _, _, rfl, (s0 _ _ hTi), T.c_Telling, T.n_Telling_facts, lTelling_facts, fa, _, rfl, dg, _, rfl, ?_⟩
      by_cases m : p ∈ t.fs
      · rw [if_pos m]
        refine iteT ⟨_, rfl, .inl ⟨rfl, _, SqL.of upd_same⟩, _, rfl, _, _, _, rfl, (s0 _ _ hTi), (by kernel_rfl), _, rfl, a, b, t, kn, p, rfl, (Same.s s0).tell hT, hM.same s0, hp.same s0, v, ln, fun H4 v4 x s4 hM4 ha tx => ?_⟩
        exact ⟨L, _, _, rfl, rfl, s4 L (.lst []) trivial upd_same, small8 (Nat.zero_le _), rfl, step (.inl m) s4 hM4 ha tx⟩
      · rw [if_neg m]
        refine iteF ⟨_, rfl, _, _, 0, _, rfl, rfl, (hp.same s0).sq, atI_nat (j := 0) rfl, _, rfl, _, _, _, _, _, rfl, (s0 _ _ hTi), T.c_Telling, T.n_Telling_fineness, lTelling_fineness, rfl, _, rfl, ?_⟩
        rw [int_dec]
        by_cases e : p.1 = t.c
        · rw [decide_eq_true e]
          refine iteT ⟨_, rfl, .inl ⟨rfl, _, SqL.of upd_same⟩, _, rfl, _, _, _, rfl, (s0 _ _ hTi), (by kernel_rfl), _, rfl, a, b, t, kn, p, rfl, (Same.s s0).tell hT, hM.same s0, hp.same s0, v, ln, fun H4 v4 x s4 hM4 ha tx => ?_⟩
          exact ⟨L, _, _, rfl, rfl, s4 L (.lst []) trivial upd_same, small8 (Nat.zero_le _), rfl, step (.inr e) s4 hM4 ha tx⟩
        · rw [decide_eq_false e]
          refine iteF ⟨rfl, Same.s s0, hM.same s0, [], _, x0, upd_same, ?_⟩
          rw [if_neg fun z => z.elim m e]
          exact .nil
    · rintro σ H2 ⟨rfl, s2, hM2, vs, x, tx, h2, ha2⟩
      have hT2 := s2.tell hT
      have lvs : vs.length ≤ 1 := by
        rw [paired_len ha2]
        split
        · exact Nat.le_refl 1
        · exact Nat.zero_le 1
      refine ⟨fun σ H3 => σ = [some (.ref a), some (.str (wStr wd)), some (.ref b), some (.ref L)] ∧ SameS H H3 ∧ MemoAt P w H3 kn t ∧ ∃ vs rs, ((rs = [] ∧ ¬ ∃ q ∈ t.fs, isIn q p = true ∧ q ≠ p) ∨ (p.1 < t.k.D ∧ ∃ b, rs = [b] ∧ BothS t (wd, wd) p b)) ∧ H3 L = some (.lst vs) ∧ Paired (AnsAt H3) vs ((if p ∈ t.fs ∨ p.1 = t.c then [some x] else []) ++ rs), ?_, ?_⟩
      · have dg := DGet.t (s2 ho (.dT hs) trivial hH) (s2.pf hp).key
        refine ⟨_, rfl, _, rfl, _, _, _, _, _, rfl, (s2 _ _ trivial hTi), T.c_Telling, T.n_Telling_holders, lTelling_holders, ho, _, rfl, dg, _, rfl, ?_⟩
        by_cases hh : ∃ q ∈ t.fs, isIn q p = true ∧ q ≠ p
        · rw [(hHo p v).mpr hh]
          have lD : p.1 < t.k.D := by
            obtain ⟨z, hz, iz, nz⟩ := hh
            have vz := ok.2 z hz
            have vz1 := vz.1
            unfold isIn at iz
            simp only [Bool.and_eq_true, decide_eq_true_eq] at iz
            by_cases e : z.1 = p.1
            · exfalso
              have e2 := iz.2
              rw [e] at e2
              simp at e2
              exact nz (Prod.ext e e2)
            · omega
          have vh := valid_halves v lD
          refine iteT ⟨_, rfl, .inl ⟨rfl, _, SqL.of h2⟩, _, rfl, _, _, _, rfl, (s2 _ _ trivial hTi), (by kernel_rfl), _, rfl, _, rfl, two_line, fun g hg => ?_⟩
          have s3 := Same.new (o := .tup [.str (wStr wd), .str (wStr wd)]) hg
          refine ⟨_, rfl, a, g, b, t, kn, wd, wd, p, rfl, (Same.s s3).tell hT2, hM2.same s3, upd_same, (s2.pf hp).same s3, ⟨vh.1, fun _ => w3⟩, ⟨vh.2, fun _ => w3⟩, lD, ln, hk, fun H4 v4 r4 s4 hM4 ha4 hb4 => ?_⟩
          have h4 := s4 L (.lst vs) trivial (s3 _ _ h2)
          have s24 : SameS H2 H4 := (Same.s s3).trans s4
          refine ⟨L, _, _, rfl, rfl, h4, small8 (by omega), rfl, sameS_on (s2.trans s24) hL, hM4.on h4, vs ++ [v4], [r4], .inr ⟨lD, r4, rfl, hb4⟩, upd_same, ?_⟩
          exact paired_snoc (paired_imp (fun _ _ k => ans_upd h4 k) (ans_sameS s24 ha2)) (ans_upd h4 ha4)
        · have e : (valV hs (kN p)).isSome = false := by
            cases z : (valV hs (kN p)).isSome with
            | false => rfl
            | true => exact absurd ((hHo p v).mp z) hh
          rw [e]
          refine iteF ⟨rfl, s2, hM2, vs, [], .inl ⟨rfl, hh⟩, h2, ?_⟩
          rw [List.append_nil]
          exact ha2
      · rintro σ H3 ⟨rfl, s3, hM3, vs3, rs, hrs, h3, ha3⟩
        refine ⟨_, rfl, _, _, _, rfl, (s3 _ _ trivial hTi), (by kernel_rfl), _, rfl, .ref a, L, _, rfl, ⟨vs3, h3, ha3⟩, ?_, fun H5 v5 r5 s5 ha5 il => ?_⟩
        · rw [List.length_append]
          have l1 : (if p ∈ t.fs ∨ p.1 = t.c then [(some x : Ans)] else []).length ≤ 1 := by
            split
            · exact Nat.le_refl 1
            · exact Nat.zero_le 1
          have l2 : rs.length ≤ 1 := by
            rcases hrs with ⟨e, _⟩ | ⟨_, b, e, _⟩
            · rw [e]; exact Nat.zero_le 1
            · rw [e]; exact Nat.le_refl 1
          omega
        · exact q H5 v5 r5 (s3.trans (Same.s s5)) (hM3.same s5) ha5 (cell_spec ok hc nl v l hne tx hrs il)
end
end Fc

set_option Elab.async false
set_option autoImplicit false
set_option linter.all false
set_option maxRecDepth 100000
/-! Walks: the ways, by their heights. -/
namespace Fc
open PySem PySem.Spec PyProof.Rows L2
section
variable {P : Program} {w : World} {K : PySem.W.Frag} {mg : Str → Option Value} {base : Heap}
theorem sc_Telling_way_of : FnScope ["self", "word", "prefix"] ["self", "word", "prefix"] d_Telling_way_of.scope := ⟨rfl, rfl, rfl, by decide +kernel, rfl, by decide +kernel, by decide +kernel⟩
theorem ok_Telling_way_of {n lev : Nat} (W : Ok P w K mg base lev d_Telling_way ["self", "word", "prefix"] (spWay P w K n)) (hlev : 10 ≤ lev) (T : Tx K mg) : Ok P w K mg base (lev + 5) d_Telling_way_of ["self", "word", "prefix"] (spWay P w K (n + 1)) := by
  refine T.at_Telling_way_of.ok sc_Telling_way_of (fun vs H Q E h => ?_) (fun _ _ _ _ _ _ us hl => match us, hl with | [_, _, _], _ => rfl) (fun cdv A outer s H vs Q E hr h => ?_)
  · obtain ⟨_, _, _, _, _, _, rfl, _⟩ := h; rfl
  · obtain ⟨a, b, t, kn, wd, p, rfl, hT, hM, hp, al, ln, q⟩ := h
    have hu := hu_of hr
    obtain ⟨dx, cl, sp, fa, bo, ho, hs, hTi, hC, hS, hF, ok, hB, hc, hH, hHo⟩ := id hT
    have hk := hS.1
    have v := al.1
    refine ⟨_, pss_cons (ps_if (pt_val (pe_mc (pv 0) (ok_Telling_ends T) hr (by first | decide | omega) T.c_Telling T.t_Telling_ends (pa_cons (pv 1) (pa_cons (pv 2) pa_nil)))) (pss_one (ps_ret (pe_tup (pa_cons pe_int (pa_cons (pe_tup pa_nil) pa_nil))))) (pss_nil)) (pss_cons (ps_if (pt_val (pe_mc (pv 0) (ok_Telling_is_cell T) hr (by first | decide | omega) T.c_Telling T.t_Telling_is_cell (pa_cons (pv 2) pa_nil))) (pss_one (ps_ret (pe_mc (pv 0) (ok_Telling_cell_way W hlev T) hr (by first | decide | omega) T.c_Telling T.t_Telling_cell_way (pa_cons (pe_ifExp (pt_cmpR op_eq (pv 1) pe_str (nomark _)) pe_str (pv 1)) (pa_cons (pv 2) pa_nil))))) (pss_nil)) (pss_cons (ps_if (pt_cmpR op_eq (pv 1) pe_str (nomark _)) (pss_one (ps_ret (pe_mc (pv 0) (ok_Telling_least T) hr (by first | decide | omega) T.c_Telling T.t_Telling_least (pa_cons (pe_lst (pa_cons (pe_mc (pv 0) (ok_Telling_both W hlev T) hr (by first | decide | omega) T.c_Telling T.t_Telling_both (pa_cons (pe_tup (pa_cons pe_str (pa_cons pe_str pa_nil))) (pa_cons (pv 2) pa_nil))) (pa_cons (pe_mc (pv 0) (ok_Telling_both W hlev T) hr (by first | decide | omega) T.c_Telling T.t_Telling_both (pa_cons (pe_tup (pa_cons pe_str (pa_cons pe_str pa_nil))) (pa_cons (pv 2) pa_nil))) pa_nil))) pa_nil)))) (pss_nil)) (pss_one (ps_ret (pe_mc (pv 0) (ok_Telling_least T) hr (by first | decide | omega) T.c_Telling T.t_Telling_least (pa_cons (pe_lst (pa_cons (pe_mc (pv 0) (ok_Telling_told W hlev T) hr (by first | decide | omega) T.c_Telling T.t_Telling_told (pa_cons (pv 2) pa_nil)) (pa_cons (pe_mc (pv 0) (ok_Telling_both W hlev T) hr (by first | decide | omega) T.c_Telling T.t_Telling_both (pa_cons (pe_tup (pa_cons (pv 1) (pa_cons (pv 1) pa_nil))) (pa_cons (pv 2) pa_nil))) pa_nil))) pa_nil)))))), ?_⟩
    refine ⟨_, rfl, _, _, _, rfl, hTi, (by kernel_rfl), _, rfl, _, rfl, a, b, t, kn, wd, p, rfl, hT, hp, v, fun H1 s1 => ⟨_, rfl, ?_⟩⟩
    have hT1 := (Same.s s1).tell hT
    have hM1 := hM.same s1
    have hTi1 := s1 _ _ hTi
    cases e1 : endsM t wd p with
    | true =>
      refine iteT ⟨Nat.zero_le _, fun e he => ⟨two_line, fun z hz => ?_⟩⟩
      have s2 := Same.new (o := .tup []) he
      have s3 := s2.trans (Same.new (o := .tup [.int 0, .ref e]) hz)
      exact q _ (.ref z) (some (0, [])) (Same.s (s1.trans s3)) (hM1.same s3) ⟨z, e, [], rfl, upd_same, Same.new hz _ _ upd_same, .nil⟩ (specV_ends hk hB.2.1 hc al e1)
    | false =>
      refine iteF ⟨_, rfl, _, _, _, rfl, hTi1, (by kernel_rfl), _, rfl, a, b, t, kn, p, rfl, hT1, hp.same s1, _, rfl, ?_⟩
      by_cases c1 : t.c ≤ p.1
      · rw [decide_eq_true c1]
        -- at a cell, or below one
        have call : ∀ wd', (wd' = .bare ∨ wd' = .full ∨ wd' = .all) → (wd' = wd ∨ (wd = .needed ∧ wd' = .all)) → spCellWay P w K n [.ref a, .str (wStr wd'), .ref b] H1 Q E0 := by
          intro wd' w3 we
          have nl' : wd' ≠ .lone := by rcases w3 with e | e | e <;> rw [e] <;> decide
          have nn' : wd' ≠ .needed := by rcases w3 with e | e | e <;> rw [e] <;> decide
          have hne : ¬ Cond t.f t.W t.h wd' (Blk (t.k.D - p.1) p.2) := by
            rcases we with e | ⟨_, e⟩
            · rw [e] at nl' nn' ⊢
              exact ends_not al nl' nn' e1
            · rw [e]
              exact fun k => k _ (blk_some _ _)
          refine ⟨a, b, t, kn, wd', p, rfl, hT1, hM1, hp.same s1, v, w3, c1, hne, ln, fun H2 v2 r2 s2 hM2 ha2 ⟨c2, c3, c4⟩ => q H2 v2 r2 ((Same.s s1).trans s2) hM2 ha2 ⟨?_, c4⟩⟩
          by_cases e : p.1 = t.c
          · have hW := c2 e
            rcases we with e3 | ⟨e3, e4⟩
            · refine .inl ⟨by omega, .inr ⟨by rw [← e3]; exact nl', ?_⟩⟩
              rw [← e3]
              exact hW
            · subst e3 e4
              refine .inl ⟨by omega, .inr ⟨by decide, ?_⟩⟩
              have eh : t.k.D - p.1 = t.h := by rw [e]; rfl
              rw [eh] at hW ⊢
              have hr : 0 < roomM t.k t.lo t.hi p := by
                have : (!decide (0 < roomM t.k t.lo t.hi p)) = false := e1
                rw [Bool.not_eq_false'] at this
                exact of_decide_eq_true this
              exact specW_needed (needed_all e hr) hW
          · have lt : t.c < p.1 := by omega
            have hD := c3 lt
            rcases we with e3 | ⟨e3, _⟩
            · rw [← e3]
              exact .inr ⟨lt, hD⟩
            · rcases al.2 lt with z | z | z <;> rw [z] at e3 <;> cases e3
        refine iteT ⟨_, rfl, _, _, _, rfl, hTi1, (by kernel_rfl), _, rfl, rfl, _, rfl, ?_⟩
        rw [str_decN]
        by_cases e2 : wd = .needed
        · rw [decide_eq_true e2]
          exact iteT ⟨_, rfl, call .all (.inr (.inr rfl)) (.inr ⟨e2, rfl⟩)⟩
        · rw [decide_eq_false e2]
          refine iteF ⟨_, rfl, _, rfl, call wd ?_ (.inl rfl)⟩
          cases wd with
          | bare => exact .inl rfl
          | full => exact .inr (.inl rfl)
          | all => exact .inr (.inr rfl)
          | needed => exact absurd rfl e2
          | lone =>
            exfalso
            have e3 : ¬ p.1 = t.c := of_decide_eq_false e1
            rcases al.2 (by omega) with z | z | z <;> cases z
      · rw [decide_eq_false c1]
        have pc : p.1 < t.c := by omega
        have lD : p.1 < t.k.D := by omega
        have vh := valid_halves v lD
        have ah : ∀ w', Allow t w' (lf p) ∧ Allow t w' (rt p) := fun w' => ⟨⟨vh.1, fun z => absurd z (by show ¬ t.c < p.1 + 1; omega)⟩, ⟨vh.2, fun z => absurd z (by show ¬ t.c < p.1 + 1; omega)⟩⟩
        refine iteF ⟨_, rfl, rfl, _, rfl, ?_⟩
        rw [str_decL]
        by_cases e2 : wd = .lone
        · subst e2
          refine iteT ⟨_, rfl, _, _, _, rfl, hTi1, (by kernel_rfl), _, rfl, _, _, _, rfl, hTi1, (by kernel_rfl), two_line, fun g hg => ?_⟩
          have s2 := Same.new (o := .tup [.str "lone", .str "all"]) hg
          refine ⟨_, rfl, a, g, b, t, kn, .lone, .all, p, rfl, (Same.s s2).tell hT1, hM1.same s2, upd_same, (hp.same s1).same s2, (ah _).1, (ah _).2, lD, ln, hk, fun H3 v3 r3 s3 hM3 ha3 hb3 => ?_⟩
          have s13 := ((Same.s s1).trans (Same.s s2)).trans s3
          have hT3 := s13.tell hT
          refine ⟨_, rfl, _, _, _, rfl, (s13 _ _ trivial hTi), (by kernel_rfl), two_line, fun g2 hg2 => ?_⟩
          have s4 := Same.new (o := .tup [.str "all", .str "lone"]) hg2
          refine ⟨_, rfl, a, g2, b, t, kn, .all, .lone, p, rfl, (Same.s s4).tell hT3, hM3.same s4, upd_same, (s13.pf hp).same s4, (ah _).1, (ah _).2, lD, ln, hk, fun H5 v5 r5 s5 hM5 ha5 hb5 => ?_⟩
          have s35 : SameS H3 H5 := (Same.s s4).trans s5
          refine ⟨two_line, fun L hL => ?_⟩
          have s6 := Same.new (o := .lst [v3, v5]) hL
          refine ⟨.ref a, L, [r3, r5], rfl, ⟨[v3, v5], upd_same, .cons ((Same.s s6).ans (s35.ans ha3)) (.cons ((Same.s s6).ans ha5) .nil)⟩, (by show 2 ≤ 10; decide), fun H7 v7 r7 s7 ha7 il => ?_⟩
          exact q H7 v7 r7 ((s13.trans s35).trans (Same.s (s6.trans s7))) ((hM5.same s6).same s7) ha7 (lone_spec hc pc hb3 hb5 il)
        · rw [decide_eq_false e2]
          refine iteF ⟨_, rfl, _, _, _, rfl, hTi1, (by kernel_rfl), _, rfl, _, _, _, rfl, hTi1, (by kernel_rfl), _, rfl, a, b, t, kn, p, rfl, hT1, hM1, hp.same s1, v, ln, fun H3 v3 x3 s3 hM3 ha3 tx => ?_⟩
          have s13 := (Same.s s1).trans s3
          have hT3 := s13.tell hT
          refine ⟨_, rfl, _, _, _, rfl, (s13 _ _ trivial hTi), (by kernel_rfl), _, rfl, _, rfl, two_line, fun g2 hg2 => ?_⟩
          have s4 := Same.new (o := .tup [.str (wStr wd), .str (wStr wd)]) hg2
          refine ⟨_, rfl, a, g2, b, t, kn, wd, wd, p, rfl, (Same.s s4).tell hT3, hM3.same s4, upd_same, (s13.pf hp).same s4, (ah _).1, (ah _).2, lD, ln, hk, fun H5 v5 r5 s5 hM5 ha5 hb5 => ?_⟩
          have s35 : SameS H3 H5 := (Same.s s4).trans s5
          refine ⟨two_line, fun L hL => ?_⟩
          have s6 := Same.new (o := .lst [v3, v5]) hL
          refine ⟨.ref a, L, [some x3, r5], rfl, ⟨[v3, v5], upd_same, .cons ((Same.s s6).ans (s35.ans ha3)) (.cons ((Same.s s6).ans ha5) .nil)⟩, (by show 2 ≤ 10; decide), fun H7 v7 r7 s7 ha7 il => ?_⟩
          exact q H7 v7 r7 ((s13.trans s35).trans (Same.s (s6.trans s7))) ((hM5.same s6).same s7) ha7 (way_spec hc e2 pc tx hb5 il)
theorem way_step {n lev : Nat} (W : Ok P w K mg base lev d_Telling_way ["self", "word", "prefix"] (spWay P w K n)) (hlev : 10 ≤ lev) (T : Tx K mg) : Ok P w K mg base (lev + 6) d_Telling_way ["self", "word", "prefix"] (spWay P w K (n + 1)) := by
  refine T.at_Telling_way.ok sc_Telling_way (fun vs H Q E h => ?_) (fun _ _ _ _ _ _ us hl => match us, hl with | [_, _, _], _ => rfl) (fun cdv A outer s H vs Q E hr h => ?_)
  · obtain ⟨_, _, _, _, _, _, rfl, _⟩ := h; rfl
  · obtain ⟨a, b, t, kn, wd, p, rfl, hT, hM, hp, al, ln, q⟩ := h
    obtain ⟨dx, cl, sp, fa, bo, ho, hs, hTi, hC, hS, hF, ok, hB, hc, hH, hHo⟩ := id hT
    refine ⟨_, pss_cons (ps_cut (ps_if (pt_cmpR (op_notInN hr.units) (pe_tup (pa_cons (pv 1) (pa_cons (pv 2) pa_nil))) (pe_fld (pv 0) rfl) (by rfl)) (pss_one (ps_asg (pe_mc (pv 0) (ok_Telling_way_of W hlev T) hr (by first | decide | omega) T.c_Telling T.t_Telling_way_of (pa_cons (pv 1) (pa_cons (pv 2) pa_nil))) (pg_sub (pe_fld (pv 0) rfl) (pe_tup (pa_cons (pv 1) (pa_cons (pv 2) pa_nil))) (set_nested hr.units)))) (pss_nil))) (pss_one (ps_ret (pe_ix (ix_nested hr.units) (pe_fld (pv 0) rfl) (pe_tup (pa_cons (pv 1) (pa_cons (pv 2) pa_nil))) (fun _ _ => rfl)))), ?_⟩
    refine ⟨fun σ H2 => σ = [some (.ref a), some (.str (wStr wd)), some (.ref b)] ∧ SameS H H2 ∧ MemoAt P w H2 kn t ∧ ∃ kvs v r, ND P w H2 kn kvs ∧ valV kvs (wk wd p) = some v ∧ AnsAt H2 v r ∧ SpecV t wd p r, ?_, ?_⟩
    · refine ⟨_, rfl, _, rfl, two_line, fun g hg => ?_⟩
      have s1 := Same.new (o := .tup [.str (wStr wd), .ref b]) hg
      have hM1 := hM.same s1
      obtain ⟨kvs, nd, kn1, spc⟩ := id hM1
      refine ⟨_, rfl, _, _, _, _, _, rfl, (s1 _ _ hTi), T.c_Telling, T.n_Telling_known, lTelling_known, g, kn, wk wd p, kvs, rfl, rfl, ⟨b, upd_same, hp.same s1⟩, nd, _, rfl, ?_⟩
      cases e : valV kvs (wk wd p) with
      | some v =>
        obtain ⟨wd', p', r, ek, al', ha, sv⟩ := spc _ v e
        obtain ⟨rfl, rfl⟩ := wk_inj ek
        exact iteF ⟨rfl, Same.s s1, hM1, kvs, v, r, nd, e, ha, sv⟩
      | none =>
        refine iteT ⟨_, rfl, _, _, _, rfl, (s1 _ _ hTi), (by kernel_rfl), _, rfl, _, rfl, a, b, t, kn, wd, p, rfl, (Same.s s1).tell hT, hM1, hp.same s1, al, ln, fun H2 v r s2 hM2 ha sv => ?_⟩
        have s12 := (Same.s s1).trans s2
        refine ⟨_, rfl, _, _, _, _, _, rfl, (s12 _ _ trivial hTi), T.c_Telling, T.n_Telling_known, lTelling_known, _, rfl, _, rfl, two_line, fun g2 hg2 => ?_⟩
        have s3 := Same.new (o := .tup [.str (wStr wd), .ref b]) hg2
        have hM3 := hM2.same s3
        obtain ⟨kvs2, nd2, kn2, spc2⟩ := id hM3
        have len2 : kvs2.length < sizeLine := memo_len hS.1 kn2 fun key v e => (spc2 key v e).imp fun wd z => z.imp fun p ⟨r, e1, e2, _⟩ => ⟨e1, e2⟩
        refine ⟨kn, g2, wk wd p, kvs2, rfl, rfl, ⟨b, upd_same, (s12.pf hp).same s3⟩, nd2, len2, fun ob nd3 mu => ?_⟩
        have s4 := sameS_memo nd2 ob
        have s14 := (s12.trans (Same.s s3)).trans s4
        have ha4 := s4.ans ((Same.s s3).ans ha)
        refine ⟨rfl, s14, ⟨_, nd3, putK_keys kvs2 _ v kn2, fun key v' e' => ?_⟩, _, v, r, nd3, by rw [valV_put, if_pos rfl], ha4, sv⟩
        rw [valV_put] at e'
        by_cases ek : key = wk wd p
        · rw [if_pos ek] at e'
          obtain rfl := Option.some.inj e'
          exact ⟨wd, p, r, ek, al, ha4, sv⟩
        · rw [if_neg ek] at e'
          obtain ⟨wd', p', r', e1, e2, e3, e4⟩ := spc2 key v' e'
          exact ⟨wd', p', r', e1, e2, s4.ans e3, e4⟩
    · rintro σ H2 ⟨rfl, s2, hM2, kvs, v, r, nd, ev, ha, sv⟩
      refine ⟨_, rfl, _, _, _, _, _, rfl, (s2 _ _ trivial hTi), T.c_Telling, T.n_Telling_known, lTelling_known, _, rfl, _, rfl, two_line, fun g hg => ?_⟩
      have s3 := Same.new (o := .tup [.str (wStr wd), .ref b]) hg
      exact ⟨g, kn, wk wd p, kvs, v, rfl, rfl, ⟨b, upd_same, (s2.pf hp).same s3⟩, nd.same s3, ev, q _ v r (s2.trans (Same.s s3)) (hM2.same s3) ((Same.s s3).ans ha) sv⟩
theorem way_all (T : Tx K mg) : ∀ n, Ok P w K mg base (10 + 6 * n) d_Telling_way ["self", "word", "prefix"] (spWay P w K n)
  | 0 => way_zero T
  | n + 1 => way_step (way_all T n) (Nat.le_add_right 10 (6 * n)) T
end
end Fc

set_option Elab.async false
set_option autoImplicit false
set_option linter.all false
set_option maxRecDepth 100000
/-! Walks: the telling made, the fewest facts. -/
namespace Fc
open PySem PySem.Spec PyProof.Rows L2
theorem isIn_lt {q p : Pf} : (isIn q p = true ∧ q ≠ p) ↔ (isIn q p = true ∧ p.1 < q.1) := by
  unfold isIn
  simp only [Bool.and_eq_true, decide_eq_true_eq]
  constructor
  · rintro ⟨⟨h1, h2⟩, h3⟩
    refine ⟨⟨h1, h2⟩, ?_⟩
    by_cases e : q.1 = p.1
    · exfalso
      rw [e] at h2
      simp at h2
      exact h3 (Prod.ext e h2)
    · omega
  · rintro ⟨h, l⟩
    exact ⟨h, fun e => by rw [e] at l; omega⟩
/-- a dict of nodes: the members -/
def HsOk (k : Kd) (hs : List (List Key × V)) (S : Pf → Prop) : Prop := (hs.map (·.1)).Nodup ∧ (∀ key v, valV hs key = some v → ∃ p, Valid k p ∧ key = kN p) ∧ ∀ p, Valid k p → ((valV hs (kN p)).isSome = true ↔ S p)
theorem HsOk.put {k : Kd} {hs : List (List Key × V)} {S S' : Pf → Prop} (h : HsOk k hs S) {p0 : Pf} (v0 : Valid k p0) (e : ∀ p, Valid k p → (S' p ↔ (S p ∨ p = p0))) : HsOk k (putK hs (kN p0) (.bl true)) S' := by
  obtain ⟨h1, h2, h3⟩ := h
  refine ⟨putK_keys hs _ _ h1, fun key v ev => ?_, fun p vp => ?_⟩
  · rw [valV_put] at ev
    by_cases z : key = kN p0
    · exact ⟨p0, v0, z⟩
    · rw [if_neg z] at ev
      exact h2 key v ev
  · rw [valV_put, e p vp, ← h3 p vp]
    by_cases z : p = p0
    · rw [if_pos (by rw [z])]
      exact ⟨fun _ => .inr z, fun _ => rfl⟩
    · rw [if_neg fun y => z (kN_inj y)]
      exact ⟨fun y => .inl y, fun y => y.elim id fun y => absurd y z⟩
theorem HsOk.congr {k : Kd} {hs : List (List Key × V)} {S S' : Pf → Prop} (h : HsOk k hs S) (e : ∀ p, Valid k p → (S' p ↔ S p)) : HsOk k hs S' := ⟨h.1, h.2.1, fun p vp => (h.2.2 p vp).trans (e p vp).symm⟩
theorem HsOk.len {k : Kd} (hk : k ∈ kinds) {hs : List (List Key × V)} {S : Pf → Prop} (h : HsOk k hs S) : hs.length < sizeLine := by
  have le : (hs.map (·.1)).length ≤ ((nodesTo 3).map kN).length := nodup_len h.1 fun key hkey => by
    obtain ⟨v, e⟩ := valV_some hkey
    obtain ⟨p, vp, rfl⟩ := h.2.1 key v e
    exact List.mem_map.mpr ⟨p, node3 hk vp, rfl⟩
  rw [List.length_map, List.length_map] at le
  have : (nodesTo 3).length = 15 := by decide
  exact small8 (by omega)
theorem ins_ne {H : Hp} {a p C C' dx dx' : Addr} {x : Str × V} {xs : List (Str × V)} (h : H a = some (.ins C dx (x :: xs))) (g : H p = some (.ins C' dx' [])) : a ≠ p := by
  rintro rfl
  rw [h] at g
  injection g with g
  injection g with _ _ g
  cases g
section
variable {P : Program} {w : World} {K : PySem.W.Frag} {mg : Str → Option Value} {base : Heap}
def spTellInit (P : Program) (w : World) (K : PySem.W.Frag) : Sp := fun vs H Q _ => ∃ (p dx cl kno bo : Addr) (t : Tp) (H0 : Hp), vs = [.ref p, .ref cl, .ref kno, .ref bo, .int (t.c : Int)] ∧ Same H0 H ∧ H0 p = none ∧ CloudAt K H0 cl t.k t.f ∧ KnowAt K H0 kno t.k t.f t.fs ∧ BoxL K H0 bo t.k t.lo t.hi ∧ t.c ≤ t.k.D ∧
  H p = some (.ins (He.ga K "Telling") dx []) ∧ ∀ H' kn, Same H0 H' → TellI K H' p t kn → MemoAt P w H' kn t → Q .non H'
theorem sc_Telling_init : FnScope ["self", "cloud", "knowledge", "box", "fineness", "length", "number"] ["self", "cloud", "knowledge", "box", "fineness"] d_Telling_init.scope := ⟨rfl, rfl, rfl, by decide +kernel, rfl, by decide +kernel, by decide +kernel⟩
theorem ok_Telling_init  (T : Tx K mg) : Ok P w K mg base 1 d_Telling_init ["self", "cloud", "knowledge", "box", "fineness"] (spTellInit P w K) := by
  refine T.at_Telling_init.ok sc_Telling_init (fun vs H Q E h => ?_) (fun _ _ _ _ _ _ us hl => match us, hl with | [_, _, _, _, _], _ => rfl) (fun cdv A outer s H vs Q E hr h => ?_)
  · obtain ⟨_, _, _, _, _, _, _, rfl, _⟩ := h; rfl
  · obtain ⟨p, dx, cl, kno, bo, t, H0, rfl, s0, fp, hC, hKn, hB, hc, hp, q⟩ := h
    have hu := hu_of hr
    obtain ⟨dxc, sp, ro, hCi, hS, hro⟩ := id hC
    obtain ⟨dxk, spk, fa, hKi, _, hF, ok⟩ := id hKn
    have hk := hS.1
    refine ⟨_, pss_cons (ps_fld (pv 0) (pv 1) rfl) (pss_cons (ps_fld (pv 0) (pe_fld (pv 1) rfl) rfl) (pss_cons (ps_fld (pv 0) (pe_fld (pv 2) rfl) rfl) (pss_cons (ps_fld (pv 0) (pv 3) rfl) (pss_cons (ps_fld (pv 0) (pv 4) rfl) (pss_cons (ps_fld (pv 0) pe_dnewK rfl) (pss_cons (ps_fld (pv 0) pe_dnewT rfl) (pss_one (ps_lock (ps_for PassesOwn.never rfl (pi_keys (pe_fld (pv 0) rfl)) (pg_tup rfl (pgs_cons (pg_name (i := 5) sc_Telling_init.nd rfl (Or.inl rfl)) (pgs_cons (pg_name (i := 6) sc_Telling_init.nd rfl (Or.inl rfl)) pgs_nil))) (pss_one (ps_while PassesOwn.never (pt_cmpR op_gt (pv 5) pe_int (nomark _)) (pss_cons (ps_par (i := 5) (j := 6) (by rfl) sc_Telling_init.nd rfl rfl (by decide) rfl rfl (pa_cons (pe_op op_sub (pv 5) pe_int) (pa_cons (pe_op op_fdiv (pv 6) pe_int) pa_nil)) (by rfl)) (pss_one (ps_dput hu (pe_fld (pv 0) rfl) (pe_tup (pa_cons (pv 5) (pa_cons (pv 6) pa_nil))) pe_bl rfl)))))))))))))), ?_⟩
    have on : ∀ {b : Addr} {o : HO}, H0 b = some o → b ≠ p := fun e => ne_of_none e fp
    refine ⟨_, rfl, _, rfl, p, _, dx, [], rfl, hp, T.c_Telling, T.n_Telling_cloud, (by decide), ?_⟩
    rw [pTelling_cloud]
    refine ⟨_, rfl, _, _, _, _, _, rfl, (by rw [upd_ne (on hCi)]; exact s0 _ _ hCi), T.c_Cloud, T.n_Cloud_space, lCloud_space, _, rfl, p, _, dx, _, rfl, upd_same, T.c_Telling, T.n_Telling_space, (by show 1 < 1000; decide), ?_⟩
    rw [pTelling_space]
    refine ⟨_, rfl, _, _, _, _, _, rfl, (by rw [upd_ne (on hKi), upd_ne (on hKi)]; exact s0 _ _ hKi), T.c_Knowledge, T.n_Knowledge_facts, lKnowledge_facts, _, rfl, p, _, dx, _, rfl, upd_same, T.c_Telling, T.n_Telling_facts, (by show 2 < 1000; decide), ?_⟩
    rw [pTelling_facts]
    refine ⟨_, rfl, _, rfl, p, _, dx, _, rfl, upd_same, T.c_Telling, T.n_Telling_box, (by show 3 < 1000; decide), ?_⟩
    rw [pTelling_box]
    refine ⟨_, rfl, _, rfl, p, _, dx, _, rfl, upd_same, T.c_Telling, T.n_Telling_fineness, (by show 4 < 1000; decide), ?_⟩
    rw [pTelling_fineness]
    generalize hH5 : upd _ p (.ins (He.ga K "Telling") dx [("cloud", .ref cl), ("space", .ref sp), ("facts", .ref fa), ("box", .ref bo), ("fineness", .int (t.c : Int))]) = H5
    have s5 : Same H0 H5 := fun b o e => by
      rw [← hH5]
      rw [upd_ne (on e), upd_ne (on e), upd_ne (on e), upd_ne (on e), upd_ne (on e)]
      exact s0 b o e
    have hp5 : H5 p = some (.ins (He.ga K "Telling") dx [("cloud", .ref cl), ("space", .ref sp), ("facts", .ref fa), ("box", .ref bo), ("fineness", .int (t.c : Int))]) := by rw [← hH5]; exact upd_same
    refine fun kn hkn => ?_
    have npk : p ≠ kn := ne_of_none hp5 hkn
    refine ⟨_, rfl, p, _, dx, _, rfl, (by rw [upd_ne npk]; exact hp5), T.c_Telling, T.n_Telling_known, (by show 5 < 1000; decide), ?_⟩
    rw [pTelling_known]
    refine fun ho hho => ?_
    have npo : p ≠ ho := fun e => by rw [← e, upd_same] at hho; cases hho
    have nko : kn ≠ ho := fun e => by rw [← e, upd_ne npk.symm, upd_same] at hho; cases hho
    refine ⟨_, rfl, p, _, dx, _, rfl, (by rw [upd_ne npo]; exact upd_same), T.c_Telling, T.n_Telling_holders, (by show 6 < 1000; decide), ?_⟩
    rw [pTelling_holders]
    generalize hHB : upd _ p (.ins (He.ga K "Telling") dx [("cloud", .ref cl), ("space", .ref sp), ("facts", .ref fa), ("box", .ref bo), ("fineness", .int (t.c : Int)), ("known", .ref kn), ("holders", .ref ho)]) = HB
    have hpB : HB p = some (.ins (He.ga K "Telling") dx (flTelling cl sp fa bo (t.c : Int) kn ho)) := by rw [← hHB]; exact upd_same
    have hkB : HB kn = some (.dK []) := by rw [← hHB, upd_ne npk.symm, upd_ne nko, upd_ne npk.symm]; exact upd_same
    have hoB : HB ho = some (.dT []) := by rw [← hHB, upd_ne npo.symm]; exact upd_same
    have fho : H0 ho = none := by
      cases e : H0 ho with
      | none => rfl
      | some o =>
        have := Same.new hkn (o := .dK []) _ _ (s5 _ _ e)
        rw [upd_ne npo.symm] at hho
        rw [this] at hho
        cases hho
    have fkn : H0 kn = none := s5.free hkn
    have sB : Same H0 HB := fun b o e => by
      rw [← hHB, upd_ne (on e), upd_ne (ne_of_none e fho), upd_ne (on e), upd_ne (ne_of_none e fkn)]
      exact s5 b o e
    have hFB := sB _ _ hF
    have nfo : fa ≠ ho := ne_of_none hF fho
    have nfk : fa ≠ kn := ne_of_none hF fkn
    have nfp : fa ≠ p := on hF
    refine ⟨fa, _, hFB, trivial, fun od => ?_⟩
    generalize hHL : upd HB fa (.frz od (.dT (factD t.k t.f t.fs))) = HL
    have onL : ∀ {b : Addr} {o : HO}, b ≠ fa → HB b = some o → HL b = some o := fun n e => by rw [← hHL, upd_ne n]; exact e
    have hpL := onL nfp.symm hpB
    have hoL := onL nfo.symm hoB
    have hfL : HL fa = some (.frz od (.dT (factD t.k t.f t.fs))) := by rw [← hHL]; exact upd_same
    refine ⟨_, rfl, _, _, _, _, _, rfl, hpL, T.c_Telling, T.n_Telling_facts, lTelling_facts, fa, od, rfl, .inr ⟨_, hfL, ?_⟩⟩
    refine for_it walk_keysT (fun i σ H3 => SameX ho HL H3 ∧ (∃ hs, H3 ho = some (.dT hs) ∧ HsOk t.k hs (fun p => ∃ q ∈ t.fs.take i, isIn q p = true ∧ q ≠ p)) ∧ ∃ u v, σ = [some (.ref p), some (.ref cl), some (.ref kno), some (.ref bo), some (.int (t.c : Int)), u, v])
      ⟨fun b o _ e => e, ⟨[], hoL, List.nodup_nil, fun key v e => (by cases e), fun p vp => ⟨fun e => (by cases e), fun ⟨q, hq, _⟩ => (by cases hq)⟩⟩, none, none, rfl⟩ (fun i σ H3 _ ⟨s3, _⟩ => s3 _ _ nfo hfL) ?_ ?_
    · rintro i x σ H3 H4 hi ⟨s3, ⟨hs, h3, ok3⟩, u, v, rfl⟩ ⟨rfl, k0, v0, g, e0, rfl, hg⟩
      obtain ⟨q0, hq0, rfl, rfl⟩ := factD_get e0
      have vq := ok.2 q0 (List.mem_of_getElem? hq0)
      refine ⟨g, _, rfl, SqT.of hg, rfl, _, _, rfl, _, _, rfl, rfl, ?_⟩
      refine ⟨fun m σ H5 => m ≤ q0.1 ∧ SameX ho HL H5 ∧ (∃ hs, H5 ho = some (.dT hs) ∧ HsOk t.k hs (fun p => (∃ q ∈ t.fs.take i, isIn q p = true ∧ q ≠ p) ∨ (isIn q0 p = true ∧ m ≤ p.1 ∧ p.1 < q0.1))) ∧ σ = [some (.ref p), some (.ref cl), some (.ref kno), some (.ref bo), some (.int (t.c : Int)), some (nV m), some (nV (q0.2 / 2 ^ (q0.1 - m)))],
        ⟨q0.1, Nat.le_refl _, s3, ⟨hs, h3, ok3.congr fun p vp => ⟨fun z => z.elim id fun z => absurd z.2 (by omega), .inl⟩⟩, by rw [Nat.sub_self, Nat.pow_zero, Nat.div_one]; rfl⟩, ?_⟩
      rintro m σ H5 ⟨lm, s5', ⟨hs5, h5, ok5⟩, rfl⟩
      refine ⟨_, rfl, _, _, rfl, rfl, _, rfl, ?_⟩
      by_cases z : 0 < m
      · rw [show decide ((m : Int) > 0) = true from decide_eq_true (by omega)]
        refine iteT ⟨fun σ' H' => ∃ m', m' < m ∧ (m' ≤ q0.1 ∧ SameX ho HL H' ∧ (∃ hs, H' ho = some (.dT hs) ∧ HsOk t.k hs (fun p => (∃ q ∈ t.fs.take i, isIn q p = true ∧ q ≠ p) ∨ (isIn q0 p = true ∧ m' ≤ p.1 ∧ p.1 < q0.1))) ∧ σ' = [some (.ref p), some (.ref cl), some (.ref kno), some (.ref bo), some (.int (t.c : Int)), some (nV m'), some (nV (q0.2 / 2 ^ (q0.1 - m')))]), fun σ' H' y => y, ?_⟩
        have e1 : (m : Int) - 1 = ((m - 1 : Nat) : Int) := by omega
        have e2 : ((q0.2 / 2 ^ (q0.1 - m) : Nat) : Int) / 2 = ((q0.2 / 2 ^ (q0.1 - (m - 1)) : Nat) : Int) := by
          have : q0.1 - (m - 1) = (q0.1 - m) + 1 := by omega
          rw [this, Nat.pow_succ, ← Nat.div_div_eq_div_mul]
          omega
        have v1 : Valid t.k (m - 1, q0.2 / 2 ^ (q0.1 - (m - 1))) := by
          refine ⟨by have := vq.1; show m - 1 ≤ _; omega, ?_⟩
          have v2 := vq.2
          have e : q0.1 = (m - 1) + (q0.1 - (m - 1)) := by omega
          show q0.2 / 2 ^ (q0.1 - (m - 1)) < 2 ^ (m - 1)
          refine (Nat.div_lt_iff_lt_mul (Nat.two_pow_pos _)).mpr ?_
          rw [← Nat.pow_add, ← e]
          exact v2
        refine ⟨_, rfl, _, _, rfl, rfl, _, rfl, _, _, rfl, rfl, ⟨by decide, by decide⟩, _, _, rfl, ?_⟩
        have hp5' := s5' _ _ npo hpL
        refine ⟨_, rfl, _, _, _, _, _, rfl, hp5', T.c_Telling, T.n_Telling_holders, lTelling_holders, _, rfl, _, rfl, two_line, fun g2 hg2 => ?_⟩
        have s6 := Same.new (o := .tup [.int ((m : Int) - 1), .int (((q0.2 / 2 ^ (q0.1 - m) : Nat) : Int) / 2)]) hg2
        have hkey : (upd H5 g2 (.tup [.int ((m : Int) - 1), .int (((q0.2 / 2 ^ (q0.1 - m) : Nat) : Int) / 2)])) g2 = some (.tup ((kN (m - 1, q0.2 / 2 ^ (q0.1 - (m - 1)))).map kV)) := by
          refine upd_same.trans ?_
          rw [e1, e2]
          rfl
        refine ⟨ho, _, rfl, DPut.t (s6 _ _ h5) hkey (ok5.len hk), m - 1, by omega, by omega, fun b o n e => ?_, ⟨_, upd_same, ok5.put v1 fun p vp => ?_⟩, ?_⟩
        · rw [upd_ne n]
          exact s6 _ _ (s5' b o n e)
        · constructor
          · rintro (y | ⟨y1, y2, y3⟩)
            · exact .inl (.inl y)
            · by_cases y4 : m ≤ p.1
              · exact .inl (.inr ⟨y1, y4, y3⟩)
              · refine .inr ?_
                have y5 : p.1 = m - 1 := by omega
                unfold isIn at y1
                simp only [Bool.and_eq_true, decide_eq_true_eq] at y1
                refine Prod.ext y5 ?_
                rw [← y1.2, y5]
          · rintro ((y | ⟨y1, y2, y3⟩) | y)
            · exact .inl y
            · exact .inr ⟨y1, by omega, y3⟩
            · refine .inr ?_
              rw [y]
              refine ⟨?_, Nat.le_refl _, by show m - 1 < q0.1; omega⟩
              unfold isIn
              rw [Bool.and_eq_true, decide_eq_true_eq, decide_eq_true_eq]
              exact ⟨by show m - 1 ≤ q0.1; omega, rfl⟩
        · show [_, _, _, _, _, some (V.int ((m : Int) - 1)), some (V.int (((q0.2 / 2 ^ (q0.1 - m) : Nat) : Int) / 2))] = _
          rw [e1, e2]
      · rw [show decide ((m : Int) > 0) = false from decide_eq_false (by omega)]
        have m0 : m = 0 := by omega
        subst m0
        refine iteF ⟨s5', ⟨hs5, h5, ok5.congr fun p vp => ?_⟩, _, _, rfl⟩
        rw [takeGet hq0]
        constructor
        · rintro ⟨z, hz, hzz⟩
          rcases List.mem_append.mp hz with y | y
          · exact .inl ⟨z, y, hzz⟩
          · rw [List.mem_singleton.mp y] at hzz
            have := isIn_lt.mp hzz
            exact .inr ⟨this.1, Nat.zero_le _, this.2⟩
        · rintro (⟨z, hz, hzz⟩ | ⟨y1, _, y3⟩)
          · exact ⟨z, List.mem_append_left _ hz, hzz⟩
          · exact ⟨q0, List.mem_append_right _ (List.mem_singleton.mpr rfl), isIn_lt.mpr ⟨y1, y3⟩⟩
    · rintro σ H3 ⟨s3, ⟨hs, h3, ok3⟩, u, v, rfl⟩
      have lenF : (factD t.k t.f t.fs).length = t.fs.length := by unfold factD; exact List.length_map ..
      rw [lenF, List.take_length] at ok3
      refine ⟨s3 _ _ nfo hfL, ?_⟩
      have fin : ∀ {b : Addr} {o : HO}, b ≠ ho → HB b = some o → (upd H3 fa (.dT (factD t.k t.f t.fs))) b = some o := fun {b o} n e => by
        by_cases z : b = fa
        · subst z
          rw [upd_same, ← hFB, e]
        · rw [upd_ne z]
          exact s3 _ _ n (onL z e)
      have sF : Same H0 (upd H3 fa (.dT (factD t.k t.f t.fs))) := fun b o e => fin (ne_of_none e fho) (sB b o e)
      refine q _ kn sF ⟨dx, cl, sp, fa, bo, ho, hs, fin npo hpB, hC.same sF, hS.same sF, upd_same, ok, hB.same sF, hc, by rw [upd_ne nfo.symm]; exact h3, ok3.2.2⟩ ⟨[], .inl ⟨fin nko hkB, rfl⟩, List.nodup_nil, fun key v e => (by cases e)⟩
/-! ### the fewest facts -/
def PfsT (H : Hp) (a : Addr) (ps : List Pf) : Prop := ∃ as : List Addr, H a = some (.tup (as.map V.ref)) ∧ Paired (PfAt H) as ps
def spFewest (P : Program) (w : World) (K : PySem.W.Frag) : Sp := fun vs H Q _ => ∃ (cl kno bo : Addr) (t : Tp), vs = [.ref cl, .ref kno, .ref bo, .int (t.c : Int)] ∧ CloudAt K H cl t.k t.f ∧ KnowAt K H kno t.k t.f t.fs ∧ BoxL K H bo t.k t.lo t.hi ∧ t.c ≤ t.k.D ∧
  ∀ H' r (ps rows : List Pf), SameS H H' → PfsT H' r ps → ps.Perm rows → SpecW t.f t.W t.h t.k.D t.F .needed t.k.D 0 (some (rows.length, rows)) → Q (.ref r) H'
theorem sc_fewest_facts : FnScope ["cloud", "knowledge", "box", "fineness", "told", "rows"] ["cloud", "knowledge", "box", "fineness"] d_fewest_facts.scope := ⟨rfl, rfl, rfl, by decide +kernel, rfl, by decide +kernel, by decide +kernel⟩
theorem ok_fewest_facts  (T : Tx K mg) : Ok P w K mg base 50 d_fewest_facts ["cloud", "knowledge", "box", "fineness"] (spFewest P w K) := by
  refine T.at_fewest_facts.ok sc_fewest_facts (fun vs H Q E h => ?_) (fun _ _ _ _ _ _ us hl => match us, hl with | [_, _, _, _], _ => rfl) (fun cdv A outer s H vs Q E hr h => ?_)
  · obtain ⟨_, _, _, _, rfl, _⟩ := h; rfl
  · obtain ⟨cl, kno, bo, t, rfl, hC, hKn, hB, hc, q⟩ := h
    obtain ⟨dxc, sp, ro, hCi, hS, hro⟩ := id hC
    obtain ⟨dxs, hSi⟩ := hS.2
    have hk := hS.1
    have kl := kinds_le hk
    refine ⟨_, pss_cons (ps_if (pt_not (pt_val (pe_fc (ok_is_whole T) hr (by first | decide | omega) rfl T.g_is_whole (pa_cons (pv 3) (pa_cons pe_int (pa_cons (pe_fld (pe_fld (pv 0) rfl) rfl) pa_nil)))))) (pss_never) (pss_nil)) (pss_cons (ps_set (i := 4) sc_fewest_facts.nd rfl (Or.inl rfl) (pe_mk (ok_Telling_init T) hr (by first | decide | omega) rfl T.g_Telling T.m_Telling (pa_cons (pv 0) (pa_cons (pv 1) (pa_cons (pv 2) (pa_cons (pv 3) pa_nil)))))) (pss_cons (ps_set (i := 5) sc_fewest_facts.nd rfl (Or.inl rfl) (pe_lst (pa_cons (pe_mc (pv 4) (way_all T 4) hr (by first | decide | omega) T.c_Telling T.t_Telling_way (pa_cons pe_str (pa_cons (pe_tup (pa_cons pe_int (pa_cons pe_int pa_nil))) pa_nil))) (pa_cons (pe_mc (pv 4) (ok_Telling_told (way_all T 4) (by decide) T) hr (by first | decide | omega) T.c_Telling T.t_Telling_told (pa_cons (pe_tup (pa_cons pe_int (pa_cons pe_int pa_nil))) pa_nil)) pa_nil)))) (pss_one (ps_ret (pe_callTy call_tuple_of rfl T.f_tuple (by decide +kernel) (pa_cons (pe_callB (cr_sortTup hr.units) rfl T.f_sorted (by decide +kernel) (pa_cons (pe_ix ix_tup (pe_mc (pv 4) (ok_Telling_least T) hr (by first | decide | omega) T.c_Telling T.t_Telling_least (pa_cons (pv 5) pa_nil)) pe_int (fun _ _ => rfl)) pa_nil)) pa_nil)))))), ?_⟩
    have d1 : (decide ((0 : Int) ≤ (t.c : Int)) && decide ((t.c : Int) ≤ (t.k.D : Int))) = true := by rw [decide_eq_true (by omega), decide_eq_true (by omega)]; rfl
    refine ⟨_, rfl, _, rfl, _, _, _, _, _, rfl, hCi, T.c_Cloud, T.n_Cloud_space, lCloud_space, _, _, _, _, _, rfl, hSi, T.c_Space, T.n_Space_depth, lSpace_depth, _, _, _, rfl, true, congrArg V.bl d1, ?_⟩
    refine iteF ⟨_, rfl, _, rfl, _, rfl, _, rfl, fun x dx nx ndx nex => ?_⟩
    have s1 : Same H (upd (upd H dx (.own x)) x (.ins (He.ga K "Telling") dx [])) := fun b o e => by
      rw [upd_ne (ne_of_none e nx), upd_ne (ne_of_none e ndx)]
      exact e
    refine ⟨x, dx, cl, kno, bo, t, H, rfl, s1, nx, hC, hKn, hB, hc, upd_same, fun H1 kn s2 hT hM => ⟨rfl, ?_⟩⟩
    obtain ⟨dxt, _, _, _, _, _, _, hTi, _, _, _, ok, _⟩ := id hT
    have v0 : Valid t.k (0, 0) := ⟨Nat.zero_le _, Nat.one_pos⟩
    refine ⟨_, rfl, _, _, _, rfl, hTi, (by kernel_rfl), two_line, fun g hg => ?_⟩
    have s3 := Same.new (o := .tup [.int 0, .int 0]) hg
    refine ⟨x, g, t, kn, .needed, (0, 0), rfl, (Same.s s3).tell hT, hM.same s3, upd_same, ⟨v0, fun z => absurd z (Nat.not_lt_zero _)⟩, by show t.k.D - 0 < 4; omega, fun H2 v1 r1 s4 hM2 ha1 sv => ?_⟩
    have s13 : SameS H1 H2 := (Same.s s3).trans s4
    have hT2 := s13.tell hT
    refine ⟨_, rfl, _, _, _, rfl, (s13 _ _ trivial hTi), (by kernel_rfl), two_line, fun g2 hg2 => ?_⟩
    have s5 := Same.new (o := .tup [.int 0, .int 0]) hg2
    refine ⟨x, g2, t, kn, (0, 0), rfl, (Same.s s5).tell hT2, hM2.same s5, upd_same, v0, by show t.k.D - 0 < 4 + 1; omega, fun H3 v2 x2 s6 hM3 ha2 tx => ?_⟩
    have s23 : SameS H2 H3 := (Same.s s5).trans s6
    refine ⟨two_line, fun L hL => ?_⟩
    have s7 := Same.new (o := .lst [v1, v2]) hL
    have s17 : SameS H1 (upd H3 L (.lst [v1, v2])) := (s13.trans s23).trans (Same.s s7)
    refine ⟨_, rfl, _, _, _, rfl, (s17 _ _ trivial hTi), (by kernel_rfl), _, rfl, .ref x, L, [r1, some x2], rfl, ⟨[v1, v2], upd_same, .cons ((Same.s s7).ans (s23.ans ha1)) (.cons ((Same.s s7).ans ha2) .nil)⟩, (by show 2 ≤ 10; decide), fun H4 v4 r4 s8 ha4 il => ?_⟩
    have sW : SpecW t.f t.W t.h t.k.D t.F .needed t.k.D 0 r4 := by
      rcases sv.1 with ⟨_, z⟩ | ⟨z, _⟩
      · rcases z with ⟨z, _⟩ | ⟨_, z⟩
        · cases z
        · exact root_least z tx.1 il
      · exact absurd z (Nat.not_lt_zero _)
    have sW' := sW
    obtain ⟨rows, rfl, _⟩ := sW
    obtain ⟨a1, b1, as, rfl, h1, h2, h3⟩ := ha4
    refine ⟨a1, _, 1, _, rfl, rfl, SqT.of h1, atI_nat (j := 1) rfl, ?_⟩
    have prs : PairsAt H4 as (rows.map pI) := by
      have : ∀ {as : List Addr} {ps : List Pf}, Paired (PfAt H4) as ps → PairsAt H4 as (ps.map pI) := by
        intro as ps h
        induction h with
        | nil => exact .nil
        | cons h1 _ ih => exact .cons h1 ih
      exact this h3
    refine ⟨b1, as, rows.map pI, rfl, SqT.of h2, prs, fun as' l hl1 hl2 => ?_⟩
    have eo : (rows.map pI).mergeSort pLe = (ordM rows).map pI := ordM_pairs rows
    rw [eo] at hl1
    have hl3 := pairsAt_pfs hl1
    have s9 := Same.new (o := .lst (as'.map V.ref)) hl2
    refine ⟨l, _, rfl, .inl ⟨SqL.of upd_same, fun r hr' => ?_⟩⟩
    have s10 := Same.new (o := .tup (as'.map V.ref)) hr'
    exact q _ r (ordM rows) rows (((Same.s s2).trans s17).trans (Same.s ((s8.trans s9).trans s10))) ⟨as', upd_same, pfs_same (s9.trans s10) hl3⟩ (List.mergeSort_perm rows leN) sW'
end
end Fc

set_option Elab.async false
set_option autoImplicit false
set_option linter.all false
set_option maxRecDepth 100000
/-! Walks: the law's draws. -/
namespace Fc
open PySem PySem.Spec PyProof.Rows L2
theorem dpAll_ints {K : PySem.W.Frag} {H : Hp} : ∀ ns : List Int, DpAll K H (ns.map V.int) (ns.map PyData.int)
  | [] => .nil
  | n :: ns => .cons (.int n) (dpAll_ints ns)
section
variable {P : Program} {w : World} {K : PySem.W.Frag} {mg : Str → Option Value} {base : Heap}
def spNumber (K : PySem.W.Frag) : Sp := fun vs H Q _ => ∃ (a : Addr) (ns : List Int) (i : Int), vs = [.ref a, .int i] ∧ SqL K H a (ns.map V.int) ∧ ∀ H' n, Same H H' → Q (.int n) H'
theorem sc_law_number : FnScope ["_law_script", "_law_index", "_law_cell", "_law_blend"] ["_law_script", "_law_index"] d_law_number.scope := ⟨rfl, rfl, rfl, by decide +kernel, rfl, by decide +kernel, by decide +kernel⟩
theorem ok_law_number  (T : Tx K mg) : Ok P w K mg base 1 d_law_number ["_law_script", "_law_index"] (spNumber K) := by
  refine T.at_law_number.ok sc_law_number (fun vs H Q E h => ?_) (fun _ _ _ _ _ _ us hl => match us, hl with | [_, _], _ => rfl) (fun cdv A outer s H vs Q E hr h => ?_)
  · obtain ⟨_, _, _, rfl, _⟩ := h; rfl
  · obtain ⟨a, ns, i, rfl, hS, q⟩ := h
    refine ⟨_, pss_cons (ps_if (pt_cmpR (op_eqD hr.units) (pv 0) (pe_lst pa_nil) (nomark _)) (pss_one (ps_ret (pe_callTy call_int1 rfl T.f_int (by decide +kernel) (pa_cons (pe_op op_mod (pe_op op_add (pe_op op_mul (pv 1) pe_int) pe_int) pe_int) pa_nil)))) (pss_nil)) (pss_cons (ps_set (i := 2) sc_law_number.nd rfl (Or.inl rfl) (pe_ix ix_list (pv 0) (pe_op op_modN (pv 1) (pe_callB call_len_seq rfl T.f_len (by decide +kernel) (pa_cons (pv 0) pa_nil))) (fun _ _ => rfl))) (pss_cons (ps_cut (ps_if (pt_cmpR op_ge (pe_callB call_abs rfl T.f_abs (by decide +kernel) (pa_cons (pv 2) pa_nil)) (pe_op op_pow pe_int pe_int) (nomark _)) (pss_one (ps_set (i := 2) sc_law_number.nd rfl (Or.inl rfl) (pe_op op_mod (pv 2) (pe_op op_pow pe_int pe_int)))) (pss_nil))) (pss_cons (ps_set (i := 3) sc_law_number.nd rfl (Or.inl rfl) (pe_op op_mod (pe_op op_add (pe_op op_mul (pe_op op_add (pv 2) (pe_op op_mul pe_int (pv 1))) pe_int) (pe_op op_mul pe_int (pe_callB call_len_seq rfl T.f_len (by decide +kernel) (pa_cons (pv 0) pa_nil)))) pe_int)) (pss_one (ps_ret (pe_callTy call_int1 rfl T.f_int (by decide +kernel) (pa_cons (pe_op op_mod (pe_op op_add (pe_op op_mul (pe_op op_mod (pe_op op_mul (pv 3) pe_int) pe_int) pe_int) (pv 1)) pe_int) pa_nil))))))), ?_⟩
    have pos : ∀ {z : Int}, 0 < z → (0 : Int) < z := id
    refine ⟨_, rfl, Nat.zero_le _, fun E0' hE => ?_⟩
    have s1 := Same.new (o := .lst []) hE
    refine ⟨.list (ns.map PyData.int), .list [], .lst (s1.seq hS) (dpAll_ints ns), .lst (SqL.of upd_same) .nil, PySem.W.shaped_ints ns, shaped_lst [], _, rfl, ?_⟩
    rw [eqv_lst_nil']
    cases ns with
    | nil =>
      exact iteT ⟨_, rfl, _, _, rfl, rfl, .inr ⟨by decide, by decide⟩, _, _, rfl, rfl, _, _, rfl, rfl, (by show (0 : Int) < 2147483647; decide), .inl ⟨_, rfl, q _ _ s1⟩⟩
    | cons n0 nr =>
      have hl : (((n0 :: nr).map V.int).length : Int) = ((nr.length + 1 : Nat) : Int) := by simp
      obtain ⟨j, ej, lj⟩ : ∃ j : Nat, i.fmod ((nr.length + 1 : Nat) : Int) = (j : Int) ∧ j < (n0 :: nr).length := by
        have h1 := Int.fmod_nonneg_of_pos i (b := ((nr.length + 1 : Nat) : Int)) (by omega)
        have h2 := Int.fmod_lt_of_pos i (b := ((nr.length + 1 : Nat) : Int)) (by omega)
        refine ⟨(i.fmod ((nr.length + 1 : Nat) : Int)).toNat, by omega, ?_⟩
        rw [List.length_cons]
        omega
      have hat : atI ((n0 :: nr).map V.int) (i.fmod (((n0 :: nr).map V.int).length : Int)) = some (V.int (n0 :: nr)[j]) := by
        rw [hl, ej]
        refine atI_nat ?_
        rw [List.getElem?_map]
        exact congrArg (Option.map V.int) (List.getElem?_eq_getElem lj)
      refine iteF ⟨_, rfl, _, rfl, _, rfl, a, _, rfl, .inl (s1.seq hS), _, _, rfl, rfl, (by rw [hl]; omega), a, _, _, V.int (n0 :: nr)[j], rfl, rfl, s1.seq hS, hat, ?_⟩
      generalize (n0 :: nr)[j] = c
      refine ⟨fun σ H2 => H2 = upd H E0' (.lst []) ∧ ∃ c' : Int, σ = [some (.ref a), some (.int i), some (.int c'), none], ?_, ?_⟩
      · refine ⟨_, rfl, _, rfl, _, _, rfl, rfl, ⟨by decide, by decide, by decide⟩, _, _, rfl, rfl, _, rfl, ?_⟩
        refine ite2 (fun _ => ?_) (fun _ => ⟨rfl, c, rfl⟩)
        exact ⟨_, rfl, _, _, rfl, rfl, ⟨by decide, by decide, by decide⟩, _, _, rfl, rfl, (by show (0 : Int) < 10 ^ 18; decide), rfl, _, rfl⟩
      · rintro σ H2 ⟨rfl, c', rfl⟩
        refine ⟨_, rfl, _, rfl, _, _, rfl, rfl, .inl ⟨by decide, by decide⟩, _, _, rfl, rfl, _, _, rfl, rfl, .inr ⟨by decide, by decide⟩, _, rfl, a, _, rfl, .inl (s1.seq hS), _, _, rfl, rfl, .inl ⟨by decide, by decide⟩, _, _, rfl, rfl, _, _, rfl, rfl, (by show (0 : Int) < 2147483647; decide), ?_⟩
        exact ⟨_, rfl, _, _, rfl, rfl, .inr ⟨by decide, by decide⟩, _, _, rfl, rfl, (by show (0 : Int) < 2147483629; decide), _, _, rfl, rfl, .inr ⟨by decide, by decide⟩, _, rfl, _, _, rfl, rfl, _, _, rfl, rfl, (by show (0 : Int) < 2147483587; decide), .inl ⟨_, rfl, q _ _ s1⟩⟩
end
end Fc

set_option Elab.async false
set_option autoImplicit false
set_option linter.all false
set_option maxRecDepth 100000
/-! Walks: the law's draws of spaces and points. -/
namespace Fc
open PySem PySem.Spec PyProof.Rows L2
theorem seqX {K : PySem.W.Frag} {H H' : Hp} {a dr : Addr} {xs : List V} (n : a ≠ dr) (s : SameX dr H H') (h : SqL K H a xs) : SqL K H' a xs := by
  rcases h with (h | ⟨o, h⟩) | h
  · exact .inl (.inl (s _ _ n h))
  · exact .inl (.inr ⟨o, s _ _ n h⟩)
  · exact .inr h
/-- all but lists as it was -/
def NotL : HO → Prop
  | .lst _ => False
  | _ => True
def SameT (H H' : Hp) : Prop := ∀ b o, NotL o → H b = some o → H' b = some o
theorem Same.t {H H' : Hp} (s : Same H H') : SameT H H' := fun b o _ e => s b o e
theorem SameT.trans {H H1 H2 : Hp} (a : SameT H H1) (b : SameT H1 H2) : SameT H H2 := fun c o n e => b c o n (a c o n e)
theorem SameT.space {K : PySem.W.Frag} {H H' : Hp} {a : Addr} {k : Kd} (s : SameT H H') : SpaceAt K H a k → SpaceAt K H' a k := fun ⟨h, dx, e⟩ => ⟨h, dx, s _ _ trivial e⟩
theorem SameT.tupN {H H' : Hp} {a : Addr} {ns : List Nat} (s : SameT H H') (h : TupN H a ns) : TupN H' a ns := s _ _ trivial h
theorem SameT.pf {H H' : Hp} {a : Addr} {p : Pf} (s : SameT H H') (h : PfAt H a p) : PfAt H' a p := s _ _ trivial h
theorem SameT.tups {H H' : Hp} (s : SameT H H') : ∀ {as : List Addr} {pts : List (List Nat)}, Paired (TupN H) as pts → Paired (TupN H') as pts
  | _, _, .nil => .nil
  | _, _, .cons h t => .cons (s.tupN h) (s.tups t)
theorem SameT.pfs {H H' : Hp} (s : SameT H H') : ∀ {as : List Addr} {pts : List Pf}, Paired (PfAt H) as pts → Paired (PfAt H') as pts
  | _, _, .nil => .nil
  | _, _, .cons h t => .cons (s.pf h) (s.pfs t)
theorem SameT.pts {H H' : Hp} {a : Addr} {pts : List (List Nat)} (s : SameT H H') : PtsAt H a pts → PtsAt H' a pts := fun ⟨as, h, p⟩ => ⟨as, s _ _ trivial h, s.tups p⟩
theorem SameT.cloud {K : PySem.W.Frag} {H H' : Hp} {a : Addr} {k : Kd} {f : Nat → Bool} (s : SameT H H') : CloudAt K H a k f → CloudAt K H' a k f :=
  fun ⟨dx, sp, ro, h1, h2, h3⟩ => ⟨dx, sp, ro, s _ _ trivial h1, s.space h2, s.tupN h3⟩
theorem SameT.know {K : PySem.W.Frag} {H H' : Hp} {a : Addr} {k : Kd} {f : Nat → Bool} {fs : List Pf} (s : SameT H H') : KnowAt K H a k f fs → KnowAt K H' a k f fs :=
  fun ⟨dx, sp, d, h1, h2, h3, h4⟩ => ⟨dx, sp, d, s _ _ trivial h1, s.space h2, s _ _ trivial h3, h4⟩
theorem sameX_on {H H' : Hp} {dr D : Addr} {o : HO} (s : SameX dr H H') (h : H D = none) : SameX dr H (upd H' D o) := fun b z n e => by
  rw [upd_ne (ne_of_none e h)]
  exact s b z n e
section
variable {P : Program} {w : World} {K : PySem.W.Frag} {mg : Str → Option Value} {base : Heap}
/-- the state of the draws: the script, asked i times -/
def DrawAt (K : PySem.W.Frag) (H : Hp) (dr sc : Addr) : Prop := ∃ (i : Int) (ns : List Int), (sc ≠ dr ∨ ∀ H', SqL K H' sc (ns.map V.int)) ∧ H dr = some (.lst [.ref sc, .int i]) ∧ SqL K H sc (ns.map V.int)
theorem DrawAt.same {K : PySem.W.Frag} {H H' : Hp} {dr sc : Addr} (s : Same H H') : DrawAt K H dr sc → DrawAt K H' dr sc := fun ⟨i, ns, n, h1, h2⟩ => ⟨i, ns, n, s _ _ h1, s.seq h2⟩
theorem DrawAt.t {K : PySem.W.Frag} {H H' : Hp} {dr sc : Addr} (d : DrawAt K H dr sc) (s : SameX dr H H') : SameT H H' := fun b o n e => by
  obtain ⟨i, ns, _, h, _⟩ := d
  refine s b o (fun z => ?_) e
  rw [z, h] at e
  cases e
  exact n
theorem seqD {K : PySem.W.Frag} {H H' : Hp} {a dr : Addr} {xs : List V} (n : a ≠ dr ∨ ∀ H', SqL K H' a xs) (s : SameX dr H H') (h : SqL K H a xs) : SqL K H' a xs := n.elim (fun n => seqX n s h) fun f => f H'
def spTake (K : PySem.W.Frag) : Sp := fun vs H Q _ => ∃ (dr sc : Addr) (many : Nat), vs = [.ref dr, .int (many : Int)] ∧ DrawAt K H dr sc ∧ 0 < many ∧ ∀ H' m, SameX dr H H' → DrawAt K H' dr sc → m < many → Q (.int ((m : Nat) : Int)) H'
theorem sc_law_take : FnScope ["_law_draw", "_law_many"] ["_law_draw", "_law_many"] d_law_take.scope := ⟨rfl, rfl, rfl, by decide +kernel, rfl, by decide +kernel, by decide +kernel⟩
theorem ok_law_take  (T : Tx K mg) : Ok P w K mg base 2 d_law_take ["_law_draw", "_law_many"] (spTake K) := by
  refine T.at_law_take.ok sc_law_take (fun vs H Q E h => ?_) (fun _ _ _ _ _ _ us hl => match us, hl with | [_, _], _ => rfl) (fun cdv A outer s H vs Q E hr h => ?_)
  · obtain ⟨_, _, _, rfl, _⟩ := h; rfl
  · obtain ⟨dr, sc, many, rfl, ⟨i, ns, ne, hd, hs⟩, hm, q⟩ := h
    refine ⟨_, pss_cons (ps_augS (pv 0) pe_int get_list pe_int ip_add set_list) (pss_one (ps_ret (pe_op op_mod (pe_callTy call_int1 rfl T.f_int (by decide +kernel) (pa_cons (pe_fc (ok_law_number T) hr (by first | decide | omega) rfl T.g_law_number (pa_cons (pe_ix ix_list (pv 0) pe_int (fun _ _ => rfl)) (pa_cons (pe_callTy call_int1 rfl T.f_int (by decide +kernel) (pa_cons (pe_ix ix_list (pv 0) pe_int (fun _ _ => rfl)) pa_nil)) pa_nil))) pa_nil)) (pv 1)))), ?_⟩
    refine ⟨_, rfl, dr, _, 1, _, rfl, rfl, SqL.of hd, rfl, _, _, rfl, rfl, dr, _, 1, 1, rfl, rfl, hd, rfl, ?_⟩
    have s1 : SameX dr H (upd H dr (.lst [.ref sc, .int (i + 1)])) := SameX.upd
    have hs1 := seqD (K := K) ne s1 hs
    refine ⟨_, rfl, dr, [.ref sc, .int (i + 1)], 0, _, rfl, rfl, SqL.of upd_same, atI_nat (j := 0) rfl, _, rfl, dr, [.ref sc, .int (i + 1)], 1, _, rfl, rfl, SqL.of upd_same, atI_nat (j := 1) rfl, .inl ⟨_, rfl, sc, ns, _, rfl, hs1, fun H2 n s2 => ?_⟩⟩
    refine .inl ⟨_, rfl, _, rfl, _, _, rfl, rfl, (by show (0 : Int) < (many : Int); omega), ?_⟩
    have e : n % (many : Int) = (((n % (many : Int)).toNat : Nat) : Int) := by
      have := Int.emod_nonneg n (b := (many : Int)) (by omega)
      omega
    show Q (V.int (n % (many : Int))) H2
    rw [e]
    refine q H2 _ (s1.trans (SameX.of_same s2)) ⟨i + 1, ns, ne, s2 _ _ upd_same, s2.seq hs1⟩ ?_
    have := Int.emod_lt_of_pos n (b := (many : Int)) (by omega)
    omega
def spPick (K : PySem.W.Frag) : Sp := fun vs H Q _ => ∃ (dr sc l : Addr) (xs : List V), vs = [.ref dr, .ref l] ∧ DrawAt K H dr sc ∧ H l = some (.lst xs) ∧ l ≠ dr ∧ 0 < xs.length ∧ ∀ H' (i : Nat) y, SameX dr H H' → DrawAt K H' dr sc → xs[i]? = some y → Q y H'
theorem sc_law_pick : FnScope ["_law_draw", "_law_items"] ["_law_draw", "_law_items"] d_law_pick.scope := ⟨rfl, rfl, rfl, by decide +kernel, rfl, by decide +kernel, by decide +kernel⟩
theorem ok_law_pick  (T : Tx K mg) : Ok P w K mg base 3 d_law_pick ["_law_draw", "_law_items"] (spPick K) := by
  refine T.at_law_pick.ok sc_law_pick (fun vs H Q E h => ?_) (fun _ _ _ _ _ _ us hl => match us, hl with | [_, _], _ => rfl) (fun cdv A outer s H vs Q E hr h => ?_)
  · obtain ⟨_, _, _, _, rfl, _⟩ := h; rfl
  · obtain ⟨dr, sc, l, xs, rfl, hd, hl, ne, pos, q⟩ := h
    refine ⟨_, pss_one (ps_ret (pe_ix ix_list (pv 1) (pe_fc (ok_law_take T) hr (by first | decide | omega) rfl T.g_law_take (pa_cons (pv 0) (pa_cons (pe_callB call_len_seq rfl T.f_len (by decide +kernel) (pa_cons (pv 1) pa_nil)) pa_nil))) (fun _ _ => rfl))), ?_⟩
    refine ⟨_, rfl, _, rfl, _, rfl, l, xs, rfl, .inl (SqL.of hl), dr, sc, xs.length, rfl, hd, pos, fun H1 m s1 hd1 hm => ?_⟩
    exact ⟨l, xs, m, xs[m], rfl, rfl, SqL.of (s1 _ _ ne hl), atI_nat (List.getElem?_eq_getElem hm), q H1 m _ s1 hd1 (List.getElem?_eq_getElem hm)⟩
def spTiny (K : PySem.W.Frag) : Sp := fun vs H Q _ => ∃ (dr sc : Addr), vs = [.ref dr] ∧ DrawAt K H dr sc ∧ ∀ H' a k, SameX dr H H' → DrawAt K H' dr sc → SpaceAt K H' a k → Q (.ref a) H'
theorem sc_law_tiny : FnScope ["_law_draw", "_law_dimensions", "_law_bits"] ["_law_draw"] d_law_tiny.scope := ⟨rfl, rfl, rfl, by decide +kernel, rfl, by decide +kernel, by decide +kernel⟩
theorem ok_law_tiny  (T : Tx K mg) : Ok P w K mg base 4 d_law_tiny ["_law_draw"] (spTiny K) := by
  refine T.at_law_tiny.ok sc_law_tiny (fun vs H Q E h => ?_) (fun _ _ _ _ _ _ us hl => match us, hl with | [_], _ => rfl) (fun cdv A outer s H vs Q E hr h => ?_)
  · obtain ⟨_, _, rfl, _⟩ := h; rfl
  · obtain ⟨dr, sc, rfl, hd, q⟩ := h
    refine ⟨_, pss_cons (ps_asg (pe_fc (ok_law_pick T) hr (by first | decide | omega) rfl T.g_law_pick (pa_cons (pv 0) (pa_cons (pe_lst (pa_cons (pe_tup (pa_cons pe_int (pa_cons pe_int pa_nil))) (pa_cons (pe_tup (pa_cons pe_int (pa_cons pe_int pa_nil))) (pa_cons (pe_tup (pa_cons pe_int (pa_cons pe_int pa_nil))) (pa_cons (pe_tup (pa_cons pe_int (pa_cons pe_int pa_nil))) pa_nil))))) pa_nil))) (pg_tup rfl (pgs_cons (pg_name (i := 1) sc_law_tiny.nd rfl (Or.inl rfl)) (pgs_cons (pg_name (i := 2) sc_law_tiny.nd rfl (Or.inl rfl)) pgs_nil)))) (pss_one (ps_ret (pe_mk (ok_Space_init T) hr (by first | decide | omega) rfl T.g_Space T.m_Space (pa_cons (pv 1) (pa_cons (pv 2) pa_nil))))), ?_⟩
    obtain ⟨i0, ns, ne, hdr, hs⟩ := id hd
    refine ⟨_, rfl, two_line, fun g1 n1 => ⟨two_line, fun g2 n2 => ⟨two_line, fun g3 n3 => ⟨two_line, fun g4 n4 => ⟨(by show 4 ≤ sizeLine; decide), fun L hL => ?_⟩⟩⟩⟩⟩
    have z1 := Same.new (o := .tup [.int 1, .int 2]) n1
    have z2 := Same.new (o := .tup [.int 1, .int 3]) n2
    have z3 := Same.new (o := .tup [.int 2, .int 1]) n3
    have z4 := Same.new (o := .tup [.int 3, .int 1]) n4
    have z5 := Same.new (o := .lst [.ref g1, .ref g2, .ref g3, .ref g4]) hL
    generalize hHL : upd _ L (.lst [.ref g1, .ref g2, .ref g3, .ref g4]) = HL at *
    have s1 : Same H HL := (((z1.trans z2).trans z3).trans z4).trans z5
    have hLL : HL L = some (.lst [.ref g1, .ref g2, .ref g3, .ref g4]) := by rw [← hHL]; exact upd_same
    have nL : L ≠ dr := fun e => by rw [e, s1 _ _ hdr] at hLL; cases hLL
    refine ⟨dr, sc, L, _, rfl, hd.same s1, hLL, nL, (by show 0 < 4; decide), fun H2 j y s2 hd2 hy => ?_⟩
    obtain ⟨g, k, rfl, hg, hk⟩ : ∃ (g : Addr) (k : Kd), y = .ref g ∧ H2 g = some (.tup [nV k.1, nV k.2]) ∧ k ∈ kinds := by
      have st := (hd.same s1).t s2
      match j, hy with
      | 0, hy => cases hy; exact ⟨g1, (1, 2), rfl, st _ _ trivial (z5 _ _ (z4 _ _ (z3 _ _ (z2 _ _ upd_same)))), by decide⟩
      | 1, hy => cases hy; exact ⟨g2, (1, 3), rfl, st _ _ trivial (z5 _ _ (z4 _ _ (z3 _ _ upd_same))), by decide⟩
      | 2, hy => cases hy; exact ⟨g3, (2, 1), rfl, st _ _ trivial (z5 _ _ (z4 _ _ upd_same)), by decide⟩
      | 3, hy => cases hy; exact ⟨g4, (3, 1), rfl, st _ _ trivial (z5 _ _ upd_same), by decide⟩
      | j + 4, hy => cases hy
    refine ⟨g, _, rfl, SqT.of hg, rfl, _, _, rfl, _, _, rfl, rfl, _, rfl, _, rfl, fun x dx nx ndx nex => ?_⟩
    refine ⟨x, dx, k, rfl, hk, upd_same, fun H3 s3 h3 => ⟨rfl, ?_⟩⟩
    have s4 := s3.made nx ndx
    exact q H3 x k (((SameX.of_same s1).trans s2).trans (SameX.of_same s4)) (hd2.same s4) ⟨hk, dx, h3⟩
end
end Fc

set_option Elab.async false
set_option autoImplicit false
set_option linter.all false
set_option maxRecDepth 100000
/-! Walks: all points, all nodes; points and boxes drawn. -/
namespace Fc
open PySem PySem.Spec PyProof.Rows L2
def PtsL (H : Hp) (a : Addr) (pts : List (List Nat)) : Prop := ∃ as : List Addr, H a = some (.lst (as.map V.ref)) ∧ Paired (TupN H) as pts
theorem PtsL.same {H H' : Hp} {a : Addr} {pts : List (List Nat)} (s : Same H H') : PtsL H a pts → PtsL H' a pts := fun ⟨as, h, p⟩ => ⟨as, s _ _ h, paired_same s p⟩
def extR (side : Nat) (r : List Nat) : List (List Nat) := (List.range side).map fun x => r ++ [x]
theorem flat_len (side : Nat) : ∀ xs : List (List Nat), (xs.flatMap (extR side)).length = xs.length * side
  | [] => by simp
  | x :: xs => by
    rw [List.flatMap_cons, List.length_append, flat_len side xs, List.length_cons, Nat.add_mul, Nat.one_mul]
    unfold extR
    rw [List.length_map, List.length_range]
    omega
theorem allPts_len (side : Nat) : ∀ d, (allPts side d).length = side ^ d
  | 0 => rfl
  | d + 1 => by
    show ((allPts side d).flatMap (extR side)).length = _
    rw [flat_len, allPts_len side d, Nat.pow_succ]
theorem range_take {n i : Nat} (h : i < n) : (List.range n)[i]? = some i := by simp [h]
theorem paired_app {α β : Type} {R : α → β → Prop} : ∀ {as : List α} {bs : List β} {as' : List α} {bs' : List β}, Paired R as bs → Paired R as' bs' → Paired R (as ++ as') (bs ++ bs')
  | _, _, _, _, .nil, h => h
  | _, _, _, _, .cons h t, k => .cons h (paired_app t k)
theorem side_bd {k : Kd} (hk : k ∈ kinds) : 2 ^ k.2 ≤ 8 ∧ -(2 ^ 62) ≤ ((2 ^ k.2 : Nat) : Int) ∧ ((2 ^ k.2 : Nat) : Int) < 2 ^ 62 := by
  have kl := kinds_le hk
  have h : 2 ^ k.2 ≤ 2 ^ 3 := Nat.pow_le_pow_right (by decide) (by omega)
  revert h
  generalize (2 : Nat) ^ k.2 = n
  intro h
  have h' : n ≤ 8 := h
  exact ⟨h', by omega, by omega⟩
section
variable {P : Program} {w : World} {K : PySem.W.Frag} {mg : Str → Option Value} {base : Heap}
def spAll (K : PySem.W.Frag) : Sp := fun vs H Q _ => ∃ (a : Addr) (k : Kd), vs = [.ref a] ∧ SpaceAt K H a k ∧ ∀ H' r, Same H H' → H r = none → PtsL H' r (ptsK k) → Q (.ref r) H'
theorem sc_law_all : FnScope ["_law_space", "_law_found", "_law_axis", "_law_longer", "_law_row", "_law_place"] ["_law_space"] d_law_all.scope := ⟨rfl, rfl, rfl, by decide +kernel, rfl, by decide +kernel, by decide +kernel⟩
theorem ok_law_all  (T : Tx K mg) : Ok P w K mg base 1 d_law_all ["_law_space"] (spAll K) := by
  refine T.at_law_all.ok sc_law_all (fun vs H Q E h => ?_) (fun _ _ _ _ _ _ us hl => match us, hl with | [_], _ => rfl) (fun cdv A outer s H vs Q E hr h => ?_)
  · obtain ⟨_, _, rfl, _⟩ := h; rfl
  · obtain ⟨a, k, rfl, hS, q⟩ := h
    obtain ⟨dx, hSi⟩ := hS.2
    have kl := kinds_le hS.1
    have s8 : 2 ^ k.2 ≤ 2 ^ 3 := Nat.pow_le_pow_right (by decide) (by omega)
    refine ⟨_, pss_cons (ps_set (i := 1) sc_law_all.nd rfl (Or.inl rfl) (pe_lst (pa_cons (pe_tup pa_nil) pa_nil))) (pss_cons (ps_for PassesOwn.never rfl (pi_range1 rfl T.f_range (pa_cons (pe_fld (pv 0) rfl) pa_nil)) (pg_name (i := 2) sc_law_all.nd rfl (Or.inl rfl)) (pss_cons (ps_set (i := 3) sc_law_all.nd rfl (Or.inl rfl) (pe_lst pa_nil)) (pss_cons (ps_for PassesOwn.never rfl (pi_list (pv 1)) (pg_name (i := 4) sc_law_all.nd rfl (Or.inr rfl)) (pss_one (ps_set (i := 3) sc_law_all.nd rfl (Or.inl rfl) (pe_op op_cat (pv 3) (pe_lc (own := [("_law_place", 5)]) rfl sc_law_all.nd (pi_range1 rfl T.f_range (pa_cons (pe_fld (pv 0) rfl) pa_nil)) (blkOk_by (own := [("_law_place", 5)]) (N := ["_law_space", "_law_found", "_law_axis", "_law_longer", "_law_row", "_law_place"]) (sc := d_law_all.scope) (by decide +kernel)) (fun _ _ _ _ _ => pg_name (i := 5) sc_law_all.nd rfl (Or.inl rfl)) (fun _ _ _ _ _ => pts_nil) (fun _ _ _ _ _ => pe_op (op_catK (K0 := K) rfl) (pv 4) (pe_tup (pa_cons (pv 5) pa_nil)))))))) (pss_one (ps_set (i := 1) sc_law_all.nd rfl (Or.inl rfl) (pv 3)))))) (pss_one (ps_ret (pv 1)))), ?_⟩
    refine ⟨Nat.zero_le _, fun e he => ⟨(by show 1 ≤ sizeLine; decide), fun F0 hF => ?_⟩⟩
    have s1 := (Same.new (o := .tup []) he).trans (Same.new (o := .lst [.ref e]) hF)
    have big : ∀ {n : Nat}, n ≤ 10000 → n ≤ sizeLine := fun h => Nat.le_trans h (by decide)
    refine ⟨_, rfl, _, _, _, _, _, rfl, (s1 _ _ hSi), T.c_Space, T.n_Space_dimensions, lSpace_dimensions, (k.1 : Int), rfl, by omega, by omega, ?_⟩
    refine for_range (lo := 0) (n := k.1) (fun i σ H2 => Same H H2 ∧ ∃ F u v z, H F = none ∧ PtsL H2 F (allPts (2 ^ k.2) i) ∧ σ = [some (.ref a), some (.ref F), u, v, z, none]) ⟨s1, F0, none, none, none, (Same.new he).free hF, ⟨[e], upd_same, .cons (Same.new hF _ _ upd_same) .nil⟩, rfl⟩ ?_ ?_
    · rintro i σ H2 hi ⟨s2, F, u, v, z, fF, ⟨as, hF2, has⟩, rfl⟩
      refine ⟨Nat.zero_le _, fun L0 hL0 => ?_⟩
      have s3 := Same.new (o := .lst []) hL0
      refine ⟨_, rfl, F, rfl, ⟨_, SqL.of (s3 _ _ hF2)⟩, ?_⟩
      refine for_list (xs := as.map V.ref) (fun j σ H3 => Same H2 H3 ∧ ∃ L z, H L = none ∧ PtsL H3 L (((allPts (2 ^ k.2) i).take j).flatMap (extR (2 ^ k.2))) ∧ σ = [some (.ref a), some (.ref F), some (.int (0 + i)), some (.ref L), z, none]) ⟨s3, L0, z, s2.free hL0, ⟨[], upd_same, .nil⟩, rfl⟩ (fun j σ H3 _ ⟨s3', _⟩ => SqL.of (s3' _ _ hF2)) ?_ ?_
      · rintro j y σ H3 hy ⟨s3', L, z, fL, ⟨ls, hL3, hls⟩, rfl⟩
        obtain ⟨g, hg, rfl⟩ := mapGet hy
        obtain ⟨r, hr', hgr⟩ := paired_get has hg
        have hgr3 := hgr.same s3'
        have s23 := s2.trans s3'
        have rl := (mem_allPts.mp (List.mem_of_getElem? hr')).1
        have lj := (List.getElem?_eq_some_iff.mp hr').1
        rw [allPts_len] at lj
        have p8 : (2 ^ k.2) ^ i ≤ 8 ^ 3 := Nat.le_trans (Nat.pow_le_pow_left s8 i) (Nat.pow_le_pow_right (by decide) (by omega))
        refine ⟨_, rfl, _, rfl, _, _, _, _, _, rfl, (s23 _ _ hSi), T.c_Space, T.n_Space_side, lSpace_side, ((2 ^ k.2 : Nat) : Int), rfl, (side_bd hS.1).2.1, (side_bd hS.1).2.2, fun D hD => ?_⟩
        refine lc_range (lo := 0) (n := 2 ^ k.2) (fun m H4 => Same H3 H4 ∧ PtsL H4 D ((extR (2 ^ k.2) r).take m)) ⟨Same.new hD, ⟨[], upd_same, .nil⟩⟩ ?_ ?_
        · rintro m H4 hm ⟨s4, ⟨ds, hD4, hds⟩⟩
          have ge : (extR (2 ^ k.2) r)[m]? = some (r ++ [m]) := by unfold extR; rw [List.getElem?_map, range_take hm]; rfl
          have e0 : (0 : Int) + (m : Int) = (m : Int) := Int.zero_add _
          refine ⟨rfl, _, rfl, _, rfl, (by show 1 ≤ sizeLine; decide), fun g2 hg2 => ?_⟩
          have s5 := Same.new (o := .tup [.int (0 + (m : Int))]) hg2
          have t2 : TupN (upd H4 g2 (.tup [.int (0 + (m : Int))])) g2 [m] := by
            refine upd_same.trans ?_
            rw [e0]
            rfl
          have hr5 := (hgr3.same s4).same s5
          have dl : ds.length ≤ 2 ^ k.2 := by
            rw [paired_len hds, List.length_take]
            unfold extR
            rw [List.length_map, List.length_range]
            exact Nat.min_le_right _ _
          have put : ∀ {H5 : Hp} {c : Addr}, Same H4 H5 → TupN H5 c (r ++ [m]) → Same H3 (upd H5 D (.lst (ds.map V.ref ++ [.ref c]))) ∧ PtsL (upd H5 D (.lst (ds.map V.ref ++ [.ref c]))) D ((extR (2 ^ k.2) r).take (m + 1)) := by
            intro H5 c s6 tc
            refine ⟨same_on (s4.trans s6) hD, ds ++ [c], by rw [List.map_append]; exact upd_same, ?_⟩
            rw [takeGet ge]
            have hD5 := s6 _ _ hD4
            have up : ∀ {b : Addr} {n : List Nat}, TupN H5 b n → TupN (upd H5 D (.lst (ds.map V.ref ++ [.ref c]))) b n := fun {b n} h => by
              have h' : H5 b = some (.tup (n.map nV)) := h
              show upd H5 D _ b = _
              rw [upd_ne (ne_of h' hD5 (by intro z; cases z))]
              exact h'
            exact paired_snoc (paired_imp (fun _ _ h => up h) (paired_same s6 hds)) (up tc)
          refine ⟨g, g2, r.map nV, [.int (0 + (m : Int))], rfl, rfl, hr5.sq, SqT.of upd_same, ?_, fun e => ?_, fun _ e => (by cases e), fun e1 _ p hp => ?_⟩
          · refine big ?_
            rw [List.length_map, rl]
            show i + 1 ≤ _
            omega
          · have er : r = [] := List.map_eq_nil_iff.mp e
            have := put s5 (c := g2) (by rw [er]; exact t2)
            exact ⟨_, s5 _ _ hD4, small8 (by rw [List.length_map]; omega), this⟩
          · have s6 := Same.new (o := .tup (r.map nV ++ [.int (0 + (m : Int))])) hp
            have := put (s5.trans s6) (c := p) (by
              refine upd_same.trans ?_
              rw [List.map_append, e0]
              rfl)
            exact ⟨_, s6 _ _ (s5 _ _ hD4), small8 (by rw [List.length_map]; omega), this⟩
        · rintro H4 ⟨s4, ⟨ds, hD4, hds⟩⟩
          have full : (extR (2 ^ k.2) r).take (2 ^ k.2) = extR (2 ^ k.2) r := List.take_of_length_le (by unfold extR; rw [List.length_map, List.length_range]; exact Nat.le_refl _)
          rw [full] at hds
          refine ⟨L, D, _, _, rfl, rfl, s4 _ _ hL3, hD4, ?_, fun p hp => ?_⟩
          · refine big ?_
            rw [List.length_map, List.length_map, paired_len hls, paired_len hds, flat_len, List.length_take]
            unfold extR
            rw [List.length_map, List.length_range, allPts_len]
            have : min j ((2 ^ k.2) ^ i) * 2 ^ k.2 ≤ 512 * 8 := Nat.mul_le_mul (Nat.le_trans (Nat.min_le_right _ _) p8) s8
            omega
          · have s5 := Same.new (o := .lst (ls.map V.ref ++ ds.map V.ref)) hp
            refine ⟨(s3'.trans s4).trans s5, p, some (.ref g), (s2.trans (s3'.trans s4)).free hp, ⟨ls ++ ds, by rw [List.map_append]; exact upd_same, ?_⟩, rfl⟩
            rw [takeGet hr', List.flatMap_append]
            refine paired_same s5 (paired_app (paired_same s4 hls) ?_)
            simpa using hds
      · rintro σ H3 ⟨s3', L, z, fL, hL3, rfl⟩
        rw [List.length_map, paired_len has, List.take_length] at hL3
        exact ⟨_, rfl, s2.trans s3', L, _, _, _, fL, hL3, rfl⟩
    · rintro σ H2 ⟨s2, F, u, v, z, fF, hF2, rfl⟩
      exact ⟨_, rfl, q _ F s2 fF hF2⟩
end
end Fc

set_option Elab.async false
set_option autoImplicit false
set_option linter.all false
set_option maxRecDepth 100000
/-! Walks: points, boxes, nodes and facts drawn. -/
namespace Fc
open PySem PySem.Spec PyProof.Rows L2
theorem DrawAt.base {K : PySem.W.Frag} {H H' : Hp} {dr sc : Addr} (d : DrawAt K H dr sc) (s : SameX dr H H') (e : ∃ i, H' dr = some (.lst [.ref sc, .int i])) : DrawAt K H' dr sc := by
  obtain ⟨i, ns, ne, h1, h2⟩ := d
  obtain ⟨i', e⟩ := e
  exact ⟨i', ns, ne, e, seqD ne s h2⟩
theorem DrawAt.at {K : PySem.W.Frag} {H : Hp} {dr sc : Addr} (d : DrawAt K H dr sc) : ∃ i, H dr = some (.lst [.ref sc, .int i]) := let ⟨i, _, _, h, _⟩ := d; ⟨i, h⟩
theorem DrawAt.ne {K : PySem.W.Frag} {H : Hp} {dr sc D : Addr} (d : DrawAt K H dr sc) (h : H D = none) : D ≠ dr := fun e => by
  obtain ⟨i, g⟩ := d.at
  rw [← e, h] at g
  cases g
theorem dr_on {H : Hp} {dr sc D : Addr} {o : HO} (n : D ≠ dr) (e : ∃ i, H dr = some (.lst [.ref sc, .int i])) : ∃ i, (upd H D o) dr = some (.lst [.ref sc, .int i]) := e.imp fun i h => by rw [upd_ne n.symm]; exact h
theorem tup_on {H : Hp} {D : Addr} {xs ys : List V} (hD : H D = some (.lst xs)) {b : Addr} {n : List Nat} (h : TupN H b n) : TupN (upd H D (.lst ys)) b n := by
  have h' : H b = some (.tup (n.map nV)) := h
  show upd H D _ b = _
  rw [upd_ne (ne_of h' hD (by intro z; cases z))]
  exact h'
section
variable {P : Program} {w : World} {K : PySem.W.Frag} {mg : Str → Option Value} {base : Heap}
def spPoints (K : PySem.W.Frag) : Sp := fun vs H Q _ => ∃ (dr sc a : Addr) (k : Kd), vs = [.ref dr, .ref a] ∧ DrawAt K H dr sc ∧ SpaceAt K H a k ∧ ∀ H' r pts, SameX dr H H' → DrawAt K H' dr sc → PtsAt H' r pts → pts.Sublist (ptsK k) → Q (.ref r) H'
theorem sc_law_points : FnScope ["_law_draw", "_law_space", "_law_rate", "_law_point_here"] ["_law_draw", "_law_space"] d_law_points.scope := ⟨rfl, rfl, rfl, by decide +kernel, rfl, by decide +kernel, by decide +kernel⟩
theorem ok_law_points  (T : Tx K mg) : Ok P w K mg base 5 d_law_points ["_law_draw", "_law_space"] (spPoints K) := by
  refine T.at_law_points.ok sc_law_points (fun vs H Q E h => ?_) (fun _ _ _ _ _ _ us hl => match us, hl with | [_, _], _ => rfl) (fun cdv A outer s H vs Q E hr h => ?_)
  · obtain ⟨_, _, _, _, rfl, _⟩ := h; rfl
  · obtain ⟨dr, sc, a, k, rfl, hd, hS, q⟩ := h
    refine ⟨_, pss_cons (ps_set (i := 2) sc_law_points.nd rfl (Or.inr rfl) (pe_fc (ok_law_pick T) hr (by first | decide | omega) rfl T.g_law_pick (pa_cons (pv 0) (pa_cons (pe_lst (pa_cons pe_int (pa_cons pe_int (pa_cons pe_int (pa_cons pe_int pa_nil))))) pa_nil)))) (pss_one (ps_ret (pe_callTy call_tuple_of rfl T.f_tuple (by decide +kernel) (pa_cons (pe_lc (own := [("_law_point_here", 3)]) rfl sc_law_points.nd (pi_list (pe_fc (ok_law_all T) hr (by first | decide | omega) rfl T.g_law_all (pa_cons (pv 1) pa_nil))) (blkOk_by (own := [("_law_point_here", 3)]) (N := ["_law_draw", "_law_space", "_law_rate", "_law_point_here"]) (sc := d_law_points.scope) (by decide +kernel)) (fun _ _ _ _ _ => pg_name (i := 3) sc_law_points.nd rfl (Or.inl rfl)) (fun _ _ _ _ _ => pts_one (pt_cmpR op_eq (pe_fc (ok_law_take T) hr (by first | decide | omega) rfl T.g_law_take (pa_cons (pv 0) (pa_cons (pv 2) pa_nil))) pe_int (nomark _))) (fun _ _ _ _ _ => pv 3)) pa_nil)))), ?_⟩
    refine ⟨_, rfl, (by show 4 ≤ sizeLine; decide), fun L hL => ?_⟩
    have s1 := Same.new (o := .lst [.int 2, .int 3, .int 5, .int 9]) hL
    refine ⟨dr, sc, L, _, rfl, hd.same s1, upd_same, hd.ne hL, (by show 0 < 4; decide), fun H2 j y s2 hd2 hy => ?_⟩
    obtain ⟨rate, rfl, rp⟩ : ∃ r : Nat, y = .int (r : Int) ∧ 0 < r := by
      match j, hy with
      | 0, hy => cases hy; exact ⟨2, rfl, by decide⟩
      | 1, hy => cases hy; exact ⟨3, rfl, by decide⟩
      | 2, hy => cases hy; exact ⟨5, rfl, by decide⟩
      | 3, hy => cases hy; exact ⟨9, rfl, by decide⟩
      | j + 4, hy => cases hy
    have s12 : SameX dr H H2 := (SameX.of_same s1).trans s2
    have hS2 := (hd.t s12).space hS
    refine ⟨_, rfl, a, k, rfl, hS2, fun H3 r s3 fr ⟨as, hr3, has⟩ => ⟨r, rfl, ⟨_, SqL.of hr3⟩, fun D hD => ?_⟩⟩
    have hd3 := hd2.same s3
    have nr : r ≠ dr := fun e => by
      obtain ⟨i, g⟩ := hd2.at
      rw [← e, fr] at g
      cases g
    have nD := hd3.ne hD
    refine lc_list (xs := as.map V.ref) (fun j H4 => SameX dr H3 H4 ∧ (∃ i, H4 dr = some (.lst [.ref sc, .int i])) ∧ ∃ ds sel, H4 D = some (.lst (ds.map V.ref)) ∧ Paired (TupN H4) ds sel ∧ sel.Sublist ((ptsK k).take j) ∧ ds.length ≤ j)
      ⟨SameX.of_same (Same.new hD), dr_on nD hd3.at, [], [], upd_same, .nil, List.Sublist.refl _, Nat.le_refl _⟩ (fun j H4 _ ⟨s4, _⟩ => SqL.of (s4 _ _ nr hr3)) ?_ ?_
    · rintro j x H4 hx ⟨s4, hd4, ds, sel, hD4, hds, hsub, hlen⟩
      obtain ⟨g, hg, rfl⟩ := mapGet hx
      obtain ⟨pt, hpt, hgp⟩ := paired_get has hg
      refine ⟨rfl, _, rfl, _, rfl, dr, sc, rate, rfl, hd3.base s4 hd4, rp, fun H5 m s5 hd5 hm => ?_⟩
      have s45 := s4.trans s5
      have hD5 := s5 _ _ nD hD4
      have t5 := (hd3.base s4 hd4).t s5
      refine ⟨rfl, _, rfl, ?_⟩
      rw [show V.int 0 = V.int ((0 : Nat) : Int) from rfl, int_dec, takeGet hpt]
      have lj := (List.getElem?_eq_some_iff.mp hx).1
      rw [List.length_map, paired_len has] at lj
      by_cases e : m = 0
      · rw [decide_eq_true e]
        refine iteT ⟨_, rfl, _, hD5, ?_, sameX_on s45 hD, dr_on nD hd5.at, ds ++ [g], sel ++ [pt], by rw [List.map_append]; exact upd_same, ?_, hsub.append (List.Sublist.refl _), by rw [List.length_append]; exact Nat.succ_le_succ hlen⟩
        · rw [List.length_map]
          have h1000 : (1000 : Nat) < sizeLine := by decide
          have : (ptsK k).length ≤ 512 := by
            unfold ptsK
            rw [allPts_len]
            exact Nat.le_trans (Nat.pow_le_pow_left (side_bd hS.1).1 _) (Nat.pow_le_pow_right (by decide) (kinds_le hS.1).2.2.1)
          omega
        · exact paired_snoc (paired_imp (fun _ _ h => tup_on hD5 h) (t5.tups hds)) (tup_on hD5 (((hd3.t s45).tupN hgp)))
      · rw [decide_eq_false e]
        exact iteF ⟨s45, hd5.at, ds, sel, hD5, t5.tups hds, hsub.trans (List.sublist_append_left _ _), Nat.le_succ_of_le hlen⟩
    · rintro H4 ⟨s4, hd4, ds, sel, hD4, hds, hsub, _⟩
      rw [List.length_map, paired_len has, List.take_length] at hsub
      refine ⟨D, _, rfl, .inl ⟨SqL.of hD4, fun z hz => ?_⟩⟩
      have s5 := Same.new (o := .tup (ds.map V.ref)) hz
      exact q _ z sel ((s12.trans (SameX.of_same s3)).trans (s4.trans (SameX.of_same s5))) ((hd3.base s4 hd4).same s5) ⟨ds, upd_same, paired_same s5 hds⟩ hsub
def spPoint (K : PySem.W.Frag) : Sp := fun vs H Q _ => ∃ (dr sc a : Addr) (k : Kd), vs = [.ref dr, .ref a] ∧ DrawAt K H dr sc ∧ SpaceAt K H a k ∧ ∀ H' r pt, SameX dr H H' → DrawAt K H' dr sc → TupN H' r pt → PtOk k pt → Q (.ref r) H'
theorem sc_law_point : FnScope ["_law_draw", "_law_space", "_law_axis"] ["_law_draw", "_law_space"] d_law_point.scope := ⟨rfl, rfl, rfl, by decide +kernel, rfl, by decide +kernel, by decide +kernel⟩
theorem ok_law_point  (T : Tx K mg) : Ok P w K mg base 3 d_law_point ["_law_draw", "_law_space"] (spPoint K) := by
  refine T.at_law_point.ok sc_law_point (fun vs H Q E h => ?_) (fun _ _ _ _ _ _ us hl => match us, hl with | [_, _], _ => rfl) (fun cdv A outer s H vs Q E hr h => ?_)
  · obtain ⟨_, _, _, _, rfl, _⟩ := h; rfl
  · obtain ⟨dr, sc, a, k, rfl, hd, hS, q⟩ := h
    obtain ⟨dx, hSi⟩ := hS.2
    have kl := kinds_le hS.1
    refine ⟨_, pss_one (ps_ret (pe_callTy call_tuple_of rfl T.f_tuple (by decide +kernel) (pa_cons (pe_lc (own := [("_law_axis", 2)]) rfl sc_law_point.nd (pi_range1 rfl T.f_range (pa_cons (pe_fld (pv 1) rfl) pa_nil)) (blkOk_by (own := [("_law_axis", 2)]) (N := ["_law_draw", "_law_space", "_law_axis"]) (sc := d_law_point.scope) (by decide +kernel)) (fun _ _ _ _ _ => pg_name (i := 2) sc_law_point.nd rfl (Or.inl rfl)) (fun _ _ _ _ _ => pts_nil) (fun _ _ _ _ _ => pe_fc (ok_law_take T) hr (by first | decide | omega) rfl T.g_law_take (pa_cons (pv 0) (pa_cons (pe_fldK (K0 := K) rfl (pv 1) rfl) pa_nil)))) pa_nil))), ?_⟩
    refine ⟨_, rfl, _, _, _, _, _, rfl, hSi, T.c_Space, T.n_Space_dimensions, lSpace_dimensions, (k.1 : Int), rfl, by omega, by omega, fun D hD => ?_⟩
    have nD := hd.ne hD
    refine lc_range (lo := 0) (n := k.1) (fun j H4 => SameX dr H H4 ∧ (∃ i, H4 dr = some (.lst [.ref sc, .int i])) ∧ ∃ pt : List Nat, H4 D = some (.lst (pt.map nV)) ∧ pt.length = j ∧ ∀ x ∈ pt, x < 2 ^ k.2)
      ⟨SameX.of_same (Same.new hD), dr_on nD hd.at, [], upd_same, rfl, fun x hx => by cases hx⟩ ?_ ?_
    · rintro j H4 hj ⟨s4, hd4, pt, hD4, hl, hb⟩
      have hS4 := (hd.t s4).space hS
      obtain ⟨dx4, hSi4⟩ := hS4.2
      refine ⟨rfl, _, rfl, _, rfl, _, _, _, _, _, rfl, hSi4, T.c_Space, T.n_Space_side, lSpace_side, dr, sc, 2 ^ k.2, rfl, hd.base s4 hd4, Nat.two_pow_pos _, fun H5 m s5 hd5 hm => ?_⟩
      have hD5 := s5 _ _ nD hD4
      refine ⟨_, hD5, small8 (by rw [List.length_map]; omega), sameX_on (s4.trans s5) hD, dr_on nD hd5.at, pt ++ [m], by rw [List.map_append]; exact upd_same, by rw [List.length_append, hl]; rfl, fun x hx => ?_⟩
      rcases List.mem_append.mp hx with h | h
      · exact hb x h
      · rw [List.mem_singleton.mp h]; exact hm
    · rintro H4 ⟨s4, hd4, pt, hD4, hl, hb⟩
      refine ⟨D, _, rfl, .inl ⟨SqL.of hD4, fun z hz => ?_⟩⟩
      have s5 := Same.new (o := .tup (pt.map nV)) hz
      exact q _ z pt (s4.trans (SameX.of_same s5)) ((hd.base s4 hd4).same s5) upd_same ⟨hl, hb⟩
/-! ### boxes -/
def minP (k : Kd) (p r : List Nat) (j : Nat) : List Nat := (List.range j).map fun i => min (p.getD i 0) (r.getD i 0)
def maxP (k : Kd) (p r : List Nat) (j : Nat) : List Nat := (List.range j).map fun i => max (p.getD i 0) (r.getD i 0)
theorem getD_mem {p : List Nat} {i : Nat} (h : i < p.length) : p.getD i 0 ∈ p := by
  rw [List.getD_eq_getElem?_getD]
  simp [h]
theorem box_ok {k : Kd} {p r : List Nat} (hp : PtOk k p) (hr : PtOk k r) : BoxOk k (minP k p r k.1) (maxP k p r k.1) := by
  refine ⟨⟨by simp [minP], fun x hx => ?_⟩, ⟨by simp [maxP], fun x hx => ?_⟩, fun i hi => ?_⟩
  · obtain ⟨i, hi, rfl⟩ := List.mem_map.mp hx
    have hi := List.mem_range.mp hi
    have := hp.2 _ (getD_mem (by rw [hp.1]; exact hi))
    show min _ _ < _
    omega
  · obtain ⟨i, hi, rfl⟩ := List.mem_map.mp hx
    have hi := List.mem_range.mp hi
    have h1 := hp.2 _ (getD_mem (by rw [hp.1]; exact hi))
    have h2 := hr.2 _ (getD_mem (by rw [hr.1]; exact hi))
    show max _ _ < _
    omega
  · have e1 : (minP k p r k.1).getD i 0 = min (p.getD i 0) (r.getD i 0) := by simp [minP, List.getD_eq_getElem?_getD, hi]
    have e2 : (maxP k p r k.1).getD i 0 = max (p.getD i 0) (r.getD i 0) := by simp [maxP, List.getD_eq_getElem?_getD, hi]
    rw [e1, e2]
    omega
def spLawBox (K : PySem.W.Frag) : Sp := fun vs H Q _ => ∃ (dr sc a : Addr) (k : Kd), vs = [.ref dr, .ref a] ∧ DrawAt K H dr sc ∧ SpaceAt K H a k ∧ ∀ H' r lo hi, SameX dr H H' → DrawAt K H' dr sc → BoxL K H' r k lo hi → Q (.ref r) H'
theorem sc_law_box : FnScope ["_law_draw", "_law_space", "_law_one", "_law_other", "_law_lows", "_law_first", "_law_second"] ["_law_draw", "_law_space"] d_law_box.scope := ⟨rfl, rfl, rfl, by decide +kernel, rfl, by decide +kernel, by decide +kernel⟩
theorem ok_law_box  (T : Tx K mg) : Ok P w K mg base 6 d_law_box ["_law_draw", "_law_space"] (spLawBox K) := by
  refine T.at_law_box.ok sc_law_box (fun vs H Q E h => ?_) (fun _ _ _ _ _ _ us hl => match us, hl with | [_, _], _ => rfl) (fun cdv A outer s H vs Q E hr h => ?_)
  · obtain ⟨_, _, _, _, rfl, _⟩ := h; rfl
  · obtain ⟨dr, sc, a, k, rfl, hd, hS, q⟩ := h
    have kl := kinds_le hS.1
    refine ⟨_, pss_cons (ps_par (i := 2) (j := 3) (by rfl) sc_law_box.nd rfl rfl (by decide) rfl rfl (pa_cons (pe_fc (ok_law_point T) hr (by first | decide | omega) rfl T.g_law_point (pa_cons (pv 0) (pa_cons (pv 1) pa_nil))) (pa_cons (pe_fc (ok_law_point T) hr (by first | decide | omega) rfl T.g_law_point (pa_cons (pv 0) (pa_cons (pv 1) pa_nil))) pa_nil)) (by rfl)) (pss_cons (ps_set (i := 4) sc_law_box.nd rfl (Or.inl rfl) (pe_callTy call_tuple_of rfl T.f_tuple (by decide +kernel) (pa_cons (pe_lc (own := [("_law_first", 5), ("_law_second", 6)]) rfl sc_law_box.nd (RZ.pi_zipA rfl T.f_zip (pa_cons (pv 2) (pa_cons (pv 3) pa_nil))) (blkOk_by (own := [("_law_first", 5), ("_law_second", 6)]) (N := ["_law_draw", "_law_space", "_law_one", "_law_other", "_law_lows", "_law_first", "_law_second"]) (sc := d_law_box.scope) (by decide +kernel)) (fun _ _ _ _ _ => pg_tupK (K0 := K) (n := 2) rfl rfl (pgs_cons (pg_name (i := 5) sc_law_box.nd rfl (Or.inl rfl)) (pgs_cons (pg_name (i := 6) sc_law_box.nd rfl (Or.inl rfl)) pgs_nil))) (fun _ _ _ _ _ => pts_nil) (fun _ _ _ _ _ => pe_callB (call_min2 rfl) rfl T.f_min (by decide +kernel) (pa_cons (pv 5) (pa_cons (pv 6) pa_nil)))) pa_nil))) (pss_one (ps_ret (pe_mk (ok_Box_init T) hr (by first | decide | omega) rfl T.g_Box T.m_Box (pa_cons (pv 1) (pa_cons (pv 4) (pa_cons (pe_callTy call_tuple_of rfl T.f_tuple (by decide +kernel) (pa_cons (pe_lc (own := [("_law_first", 5), ("_law_second", 6)]) rfl sc_law_box.nd (RZ.pi_zipA rfl T.f_zip (pa_cons (pv 2) (pa_cons (pv 3) pa_nil))) (blkOk_by (own := [("_law_first", 5), ("_law_second", 6)]) (N := ["_law_draw", "_law_space", "_law_one", "_law_other", "_law_lows", "_law_first", "_law_second"]) (sc := d_law_box.scope) (by decide +kernel)) (fun _ _ _ _ _ => pg_tupK (K0 := K) (n := 2) rfl rfl (pgs_cons (pg_name (i := 5) sc_law_box.nd rfl (Or.inl rfl)) (pgs_cons (pg_name (i := 6) sc_law_box.nd rfl (Or.inl rfl)) pgs_nil))) (fun _ _ _ _ _ => pts_nil) (fun _ _ _ _ _ => pe_callB (call_max2 rfl) rfl T.f_max (by decide +kernel) (pa_cons (pv 5) (pa_cons (pv 6) pa_nil)))) pa_nil)) pa_nil))))))), ?_⟩
    refine ⟨_, rfl, _, rfl, dr, sc, a, k, rfl, hd, hS, fun H1 p pt s1 hd1 hp okp => ?_⟩
    refine ⟨_, rfl, _, rfl, dr, sc, a, k, rfl, hd1, (hd.t s1).space hS, fun H2 r rt s2 hd2 hrt okr => ⟨_, _, rfl, ?_⟩⟩
    have hp2 := (hd1.t s2).tupN hp
    have hS2 := (hd.t (s1.trans s2)).space hS
    have len : (rt.map nV).length = (pt.map nV).length := by rw [List.length_map, List.length_map, okp.1, okr.1]
    have hn : (pt.map nV).length = k.1 := by rw [List.length_map, okp.1]
    refine ⟨_, rfl, _, rfl, p, r, pt.map nV, rt.map nV, rfl, .inr ⟨hp2.sq, hrt.sq, fun D hD => ?_⟩⟩
    refine lc_it (walk_zipT len) (fun i H3 => Same H2 H3 ∧ H3 D = some (.lst ((minP k pt rt i).map nV))) ⟨Same.new hD, upd_same⟩ (fun i H3 _ ⟨s3, _⟩ => ⟨(hp2.same s3).sq, (hrt.same s3).sq⟩) ?_ ?_
    · rintro i v H3 H4 hi1 ⟨s3, h3⟩ ⟨z, x, y, rfl, hz, rfl, e1, e2⟩
      rw [hn] at hi1
      obtain rfl : nV (pt.getD i 0) = x := Option.some.inj ((getD_map (by rw [okp.1]; exact hi1)).symm.trans e1)
      obtain rfl : nV (rt.getD i 0) = y := Option.some.inj ((getD_map (by rw [okr.1]; exact hi1)).symm.trans e2)
      have sz := Same.new (o := .tup [nV (pt.getD i 0), nV (rt.getD i 0)]) hz
      refine ⟨z, _, rfl, SqT.of upd_same, rfl, _, _, rfl, _, _, rfl, rfl, rfl, ?_⟩
      refine ⟨_, rfl, _, rfl, _, _, rfl, _, sz _ _ h3, ?_, same_on (s3.trans sz) hD, upd_same.trans (congrArg (fun l => some (HO.lst l)) ?_)⟩
      · rw [List.length_map]
        unfold minP
        rw [List.length_map, List.length_range]
        exact small8 (by omega)
      · unfold minP
        rw [List.range_succ, List.map_append, List.map_append]
        refine congrArg (_ ++ ·) (congrArg (fun z => [V.int z]) ?_)
        show (if ((rt.getD i 0 : Nat) : Int) < ((pt.getD i 0 : Nat) : Int) then ((rt.getD i 0 : Nat) : Int) else ((pt.getD i 0 : Nat) : Int)) = ((min (pt.getD i 0) (rt.getD i 0) : Nat) : Int)
        split <;> omega
    · rintro H3 ⟨s3, h3⟩
      rw [hn] at h3
      refine ⟨D, _, rfl, .inl ⟨SqL.of h3, fun lo hlo => ?_⟩⟩
      have s4 := Same.new (o := .tup ((minP k pt rt k.1).map nV)) hlo
      have s24 := s3.trans s4
      refine ⟨_, rfl, _, rfl, _, rfl, _, rfl, p, r, pt.map nV, rt.map nV, rfl, .inr ⟨(hp2.same s24).sq, (hrt.same s24).sq, fun D2 hD2 => ?_⟩⟩
      refine lc_it (walk_zipT len) (fun i H5 => Same (upd H3 lo (.tup ((minP k pt rt k.1).map nV))) H5 ∧ H5 D2 = some (.lst ((maxP k pt rt i).map nV))) ⟨Same.new hD2, upd_same⟩ (fun i H5 _ ⟨s5, _⟩ => ⟨((hp2.same s24).same s5).sq, ((hrt.same s24).same s5).sq⟩) ?_ ?_
      · rintro i v H5 H6 hi1 ⟨s5, h5⟩ ⟨z, x, y, rfl, hz, rfl, e1, e2⟩
        rw [hn] at hi1
        obtain rfl : nV (pt.getD i 0) = x := Option.some.inj ((getD_map (by rw [okp.1]; exact hi1)).symm.trans e1)
        obtain rfl : nV (rt.getD i 0) = y := Option.some.inj ((getD_map (by rw [okr.1]; exact hi1)).symm.trans e2)
        have sz := Same.new (o := .tup [nV (pt.getD i 0), nV (rt.getD i 0)]) hz
        refine ⟨z, _, rfl, SqT.of upd_same, rfl, _, _, rfl, _, _, rfl, rfl, rfl, ?_⟩
        refine ⟨_, rfl, _, rfl, _, _, rfl, _, sz _ _ h5, ?_, same_on (s5.trans sz) hD2, upd_same.trans (congrArg (fun l => some (HO.lst l)) ?_)⟩
        · rw [List.length_map]
          unfold maxP
          rw [List.length_map, List.length_range]
          exact small8 (by omega)
        · unfold maxP
          rw [List.range_succ, List.map_append, List.map_append]
          refine congrArg (_ ++ ·) (congrArg (fun z => [V.int z]) ?_)
          show (if ((rt.getD i 0 : Nat) : Int) > ((pt.getD i 0 : Nat) : Int) then ((rt.getD i 0 : Nat) : Int) else ((pt.getD i 0 : Nat) : Int)) = ((max (pt.getD i 0) (rt.getD i 0) : Nat) : Int)
          split <;> omega
      · rintro H5 ⟨s5, h5⟩
        rw [hn] at h5
        refine ⟨D2, _, rfl, .inl ⟨SqL.of h5, fun hi hhi => ?_⟩⟩
        have s6 := Same.new (o := .tup ((maxP k pt rt k.1).map nV)) hhi
        have s26 := s24.trans (s5.trans s6)
        refine fun x dx nx ndx nex => ?_
        have sb : Same (upd H5 hi (.tup ((maxP k pt rt k.1).map nV))) (upd (upd (upd H5 hi (.tup ((maxP k pt rt k.1).map nV))) dx (.own x)) x (.ins (He.ga K "Box") dx [])) := fun b o e => by
          rw [upd_ne (ne_of_none e nx), upd_ne (ne_of_none e ndx)]
          exact e
        have bo := box_ok okp okr
        have hlo6 : TupN (upd H5 hi (.tup ((maxP k pt rt k.1).map nV))) lo (minP k pt rt k.1) := s6 _ _ (s5 _ _ upd_same)
        refine ⟨x, dx, a, lo, hi, k, minP k pt rt k.1, maxP k pt rt k.1, rfl, (hS2.same s26).same sb, hlo6.same sb, sb _ _ upd_same, bo, upd_same, fun H7 s7 h7 => ⟨rfl, ?_⟩⟩
        have s8 := s7.made nx ndx
        have s28 := s26.trans s8
        exact q H7 x _ _ ((s1.trans s2).trans (SameX.of_same s28)) (hd2.same s28) ⟨⟨dx, a, lo, hi, h7, hS2.same s28, hlo6.same s8, s8 _ _ upd_same, bo.1, bo.2.1⟩, bo, hS.1⟩
end
end Fc

set_option Elab.async false
set_option autoImplicit false
set_option linter.all false
set_option maxRecDepth 100000
/-! Walks: nodes, facts drawn. -/
namespace Fc
open PySem PySem.Spec PyProof.Rows L2
def levM (l : Nat) : List Pf := (List.range (2 ^ l)).map fun n => (l, n)
theorem lev_len (l : Nat) : (levM l).length = 2 ^ l := by unfold levM; rw [List.length_map, List.length_range]
theorem levs_len : ∀ l, ((List.range l).flatMap levM).length + 1 = 2 ^ l
  | 0 => rfl
  | l + 1 => by
    rw [List.range_succ, List.flatMap_append, List.length_append]
    have := levs_len l
    have e : ([l].flatMap levM).length = 2 ^ l := by
      rw [List.flatMap_cons, List.flatMap_nil, List.append_nil, lev_len]
    rw [e, Nat.pow_succ]
    omega
theorem pf_on {H : Hp} {D : Addr} {xs ys : List V} (hD : H D = some (.lst xs)) {b : Addr} {p : Pf} (h : PfAt H b p) : PfAt (upd H D (.lst ys)) b p := by
  have h' : H b = some (.tup _) := h
  show upd H D _ b = _
  rw [upd_ne (ne_of h' hD (by intro z; cases z))]
  exact h'
theorem nodes_nodup (D : Nat) : (nodesTo D).Nodup := by
  unfold nodesTo
  rw [List.nodup_iff_pairwise_ne, List.pairwise_flatMap]
  refine ⟨fun l _ => ?_, ?_⟩
  · refine List.Pairwise.map (R := fun a b : Nat => a ≠ b) _ (fun a b r e => r (Prod.mk.inj e).2) List.nodup_range
  · refine List.Pairwise.imp (fun {a b} r x hx y hy e => ?_) (List.nodup_range (n := D + 1))
    obtain ⟨n, _, rfl⟩ := List.mem_map.mp hx
    obtain ⟨m, _, rfl⟩ := List.mem_map.mp hy
    exact r (Prod.mk.inj e).1
section
variable {P : Program} {w : World} {K : PySem.W.Frag} {mg : Str → Option Value} {base : Heap}
def spPrefixes (K : PySem.W.Frag) : Sp := fun vs H Q _ => ∃ (a : Addr) (k : Kd), vs = [.ref a] ∧ SpaceAt K H a k ∧ ∀ H' r, Same H H' → H r = none → PfsL H' r (nodesTo k.D) → Q (.ref r) H'
theorem sc_law_prefixes : FnScope ["_law_space", "_law_found", "_law_length", "_law_number_here"] ["_law_space"] d_law_prefixes.scope := ⟨rfl, rfl, rfl, by decide +kernel, rfl, by decide +kernel, by decide +kernel⟩
theorem ok_law_prefixes  (T : Tx K mg) : Ok P w K mg base 3 d_law_prefixes ["_law_space"] (spPrefixes K) := by
  refine T.at_law_prefixes.ok sc_law_prefixes (fun vs H Q E h => ?_) (fun _ _ _ _ _ _ us hl => match us, hl with | [_], _ => rfl) (fun cdv A outer s H vs Q E hr h => ?_)
  · obtain ⟨_, _, rfl, _⟩ := h; rfl
  · obtain ⟨a, k, rfl, hS, q⟩ := h
    obtain ⟨dx, hSi⟩ := hS.2
    have kl := kinds_le hS.1
    have big : ∀ {n : Nat}, n ≤ 10000 → n ≤ sizeLine := fun h => Nat.le_trans h (by decide)
    refine ⟨_, pss_cons (ps_set (i := 1) sc_law_prefixes.nd rfl (Or.inl rfl) (pe_lst pa_nil)) (pss_cons (ps_for PassesOwn.never rfl (pi_range1 rfl T.f_range (pa_cons (pe_op op_add (pe_fld (pv 0) rfl) pe_int) pa_nil)) (pg_name (i := 2) sc_law_prefixes.nd rfl (Or.inr rfl)) (pss_one (ps_set (i := 1) sc_law_prefixes.nd rfl (Or.inl rfl) (pe_op op_cat (pv 1) (pe_lc (own := [("_law_number_here", 3)]) rfl sc_law_prefixes.nd (pi_range1 rfl T.f_range (pa_cons (pe_op op_fdivN (pe_mc (pv 0) (ok_Space_size T) hr (by first | decide | omega) T.c_Space T.t_Space_size (pa_cons (pe_tup (pa_cons pe_int (pa_cons pe_int pa_nil))) pa_nil)) (pe_mc (pv 0) (ok_Space_size T) hr (by first | decide | omega) T.c_Space T.t_Space_size (pa_cons (pe_tup (pa_cons (pv 2) (pa_cons pe_int pa_nil))) pa_nil))) pa_nil)) (blkOk_by (own := [("_law_number_here", 3)]) (N := ["_law_space", "_law_found", "_law_length", "_law_number_here"]) (sc := d_law_prefixes.scope) (by decide +kernel)) (fun _ _ _ _ _ => pg_name (i := 3) sc_law_prefixes.nd rfl (Or.inl rfl)) (fun _ _ _ _ _ => pts_nil) (fun _ _ _ _ _ => pe_tup (pa_cons (pv 2) (pa_cons (pv 3) pa_nil)))))))) (pss_one (ps_ret (pv 1)))), ?_⟩
    refine ⟨Nat.zero_le _, fun F0 hF => ?_⟩
    have s1 := Same.new (o := .lst []) hF
    refine ⟨_, rfl, _, _, _, _, _, rfl, (s1 _ _ hSi), T.c_Space, T.n_Space_depth, lSpace_depth, _, _, rfl, rfl, ((k.D + 1 : Nat) : Int), rfl, by omega, by omega, ?_⟩
    refine for_range (lo := 0) (n := k.D + 1) (fun i σ H2 => Same H H2 ∧ ∃ F u, H F = none ∧ PfsL H2 F ((List.range i).flatMap levM) ∧ σ = [some (.ref a), some (.ref F), u, none]) ⟨s1, F0, none, hF, ⟨[], upd_same, .nil⟩, rfl⟩ ?_ ?_
    · rintro i σ H2 hi ⟨s2, F, u, fF, ⟨as, hF2, has⟩, rfl⟩
      have e0 : (0 : Int) + (i : Int) = (i : Int) := Int.zero_add _
      refine ⟨_, rfl, _, rfl, _, _, _, rfl, (s2 _ _ hSi), (by kernel_rfl), two_line, fun g hg => ?_⟩
      have s3 := Same.new (o := .tup [.int 0, .int 0]) hg
      have s23 := s2.trans s3
      refine ⟨a, g, k, (0, 0), rfl, hS.same s23, upd_same, Nat.zero_le _, ?_⟩
      refine ⟨_, rfl, _, _, _, rfl, (s23 _ _ hSi), (by kernel_rfl), _, rfl, two_line, fun g2 hg2 => ?_⟩
      have s4 := Same.new (o := .tup [.int (0 + (i : Int)), .int 0]) hg2
      have s24 := s23.trans s4
      refine ⟨a, g2, k, (i, 0), rfl, hS.same s24, ?_, (by show i ≤ k.D; omega), ?_⟩
      · refine upd_same.trans ?_
        rw [e0]
        rfl
      have pi2 : 2 ^ (k.D - i) ≤ 8 ∧ 1 ≤ 2 ^ (k.D - i) := ⟨(pow_le8 hS.1 i).2, (pow_le8 hS.1 i).1⟩
      have pw2 : 2 ^ i ≤ 8 := Nat.le_trans (Nat.pow_le_pow_right (by decide) (show i ≤ 3 by omega)) (Nat.le_refl 8)
      have ed : ((2 ^ (k.D - 0) : Nat) : Int).fdiv ((2 ^ (k.D - i) : Nat) : Int) = ((2 ^ i : Nat) : Int) := by
        rw [fdivN]
        have : 2 ^ (k.D - 0) = 2 ^ i * 2 ^ (k.D - i) := by
          rw [← Nat.pow_add]
          congr 1
          omega
        rw [this, Nat.mul_div_cancel _ (Nat.two_pow_pos _)]
      have nz : ((2 ^ (k.D - i) : Nat) : Int) ≠ 0 ∧ ((2 ^ (k.D - i) : Nat) : Int).natAbs < 1073741824 := by
        obtain ⟨p1, p2⟩ := pi2
        revert p1 p2
        generalize 2 ^ (k.D - i) = z
        intro p1 p2
        omega
      have bd : -(2 ^ 62) ≤ ((2 ^ i : Nat) : Int) ∧ ((2 ^ i : Nat) : Int) < 2 ^ 62 := by
        revert pw2
        generalize 2 ^ i = z
        intro p1
        omega
      refine ⟨_, _, rfl, rfl, nz, ((2 ^ i : Nat) : Int), congrArg (fun z => [V.int z]) ed, bd.1, bd.2, fun D hD => ?_⟩
      refine lc_range (lo := 0) (n := 2 ^ i) (fun m H4 => Same (upd (upd H2 g (.tup [.int 0, .int 0])) g2 (.tup [.int (0 + (i : Int)), .int 0])) H4 ∧ PfsL H4 D ((levM i).take m)) ⟨Same.new hD, ⟨[], upd_same, .nil⟩⟩ ?_ ?_
      · rintro m H4 hm ⟨s5, ⟨ds, hD4, hds⟩⟩
        have em : (0 : Int) + (m : Int) = (m : Int) := Int.zero_add _
        have ge : (levM i)[m]? = some (i, m) := by unfold levM; rw [List.getElem?_map, range_take hm]; rfl
        refine ⟨rfl, _, rfl, _, rfl, two_line, fun g3 hg3 => ?_⟩
        have s6 := Same.new (o := .tup [.int (0 + (i : Int)), .int (0 + (m : Int))]) hg3
        refine ⟨_, s6 _ _ hD4, ?_, same_on (s5.trans s6) hD, ds ++ [g3], by rw [List.map_append]; exact upd_same, ?_⟩
        · rw [List.length_map, paired_len hds, List.length_take, lev_len]
          exact small8 (by omega)
        · rw [takeGet ge]
          have hp : PfAt (upd H4 g3 (.tup [.int (0 + (i : Int)), .int (0 + (m : Int))])) g3 (i, m) := by
            refine upd_same.trans ?_
            rw [e0, em]
          exact pfs_upd (s6 _ _ hD4) (paired_snoc (pfs_same s6 hds) hp)
      · rintro H4 ⟨s5, ⟨ds, hD4, hds⟩⟩
        have full : (levM i).take (2 ^ i) = levM i := List.take_of_length_le (by rw [lev_len]; exact Nat.le_refl _)
        rw [full] at hds
        have s45 := (s3.trans s4).trans s5
        refine ⟨F, D, _, _, rfl, rfl, s45 _ _ hF2, hD4, ?_, fun p hp => ?_⟩
        · refine big ?_
          have h1 := levs_len i
          rw [List.length_map, List.length_map, paired_len has, paired_len hds, lev_len]
          omega
        · have s6 := Same.new (o := .lst (as.map V.ref ++ ds.map V.ref)) hp
          refine ⟨(s2.trans s45).trans s6, p, some (.int (0 + i)), (s2.trans s45).free hp, ⟨as ++ ds, by rw [List.map_append]; exact upd_same, ?_⟩, rfl⟩
          rw [List.range_succ, List.flatMap_append]
          refine pfs_same s6 (paired_app (pfs_same s45 has) ?_)
          simpa using hds
    · rintro σ H2 ⟨s2, F, u, fF, hF2, rfl⟩
      exact ⟨_, rfl, q _ F s2 fF hF2⟩
/-! ### facts -/
theorem factD_app (k : Kd) (f : Nat → Bool) (fs : List Pf) (p : Pf) : factD k f (fs ++ [p]) = factD k f fs ++ [(kN p, nV (cntM k f p))] := by
  unfold factD
  rw [List.map_append]
  rfl
theorem SameX.drop {dr : Addr} {H H' : Hp} (s : SameX dr H H') : True := trivial
def spFacts (K : PySem.W.Frag) : Sp := fun vs H Q _ => ∃ (dr sc cl : Addr) (k : Kd) (f : Nat → Bool), vs = [.ref dr, .ref cl] ∧ DrawAt K H dr sc ∧ CloudAt K H cl k f ∧ ∀ H' r fs, SameX dr H H' → DrawAt K H' dr sc → KnowAt K H' r k f fs → Q (.ref r) H'
theorem sc_law_facts : FnScope ["_law_draw", "_law_cloud", "_law_rate", "_law_facts_here", "_law_prefix"] ["_law_draw", "_law_cloud"] d_law_facts.scope := ⟨rfl, rfl, rfl, by decide +kernel, rfl, by decide +kernel, by decide +kernel⟩
theorem ok_law_facts  (T : Tx K mg) : Ok P w K mg base 8 d_law_facts ["_law_draw", "_law_cloud"] (spFacts K) := by
  refine T.at_law_facts.ok sc_law_facts (fun vs H Q E h => ?_) (fun _ _ _ _ _ _ us hl => match us, hl with | [_, _], _ => rfl) (fun cdv A outer s H vs Q E hr h => ?_)
  · obtain ⟨_, _, _, _, _, rfl, _⟩ := h; rfl
  · obtain ⟨dr, sc, cl, k, f, rfl, hd, hC, q⟩ := h
    obtain ⟨dxc, sp, ro, hCi, hS, hro⟩ := id hC
    have hu := hu_of hr
    refine ⟨_, pss_cons (ps_par (i := 2) (j := 3) (by rfl) sc_law_facts.nd rfl rfl (by decide) rfl rfl (pa_cons (pe_fc (ok_law_pick T) hr (by first | decide | omega) rfl T.g_law_pick (pa_cons (pv 0) (pa_cons (pe_lst (pa_cons pe_int (pa_cons pe_int (pa_cons pe_int pa_nil)))) pa_nil))) (pa_cons pe_dnewT pa_nil)) (by rfl)) (pss_cons (ps_for PassesOwn.never rfl (pi_list (pe_fc (ok_law_prefixes T) hr (by first | decide | omega) rfl T.g_law_prefixes (pa_cons (pe_fld (pv 1) rfl) pa_nil))) (pg_name (i := 4) sc_law_facts.nd rfl (Or.inl rfl)) (pss_one (ps_if (pt_cmpR op_eq (pe_fc (ok_law_take T) hr (by first | decide | omega) rfl T.g_law_take (pa_cons (pv 0) (pa_cons (pv 2) pa_nil))) pe_int (nomark _)) (pss_one (ps_dput hu (pv 3) (pv 4) (pe_mc (pv 1) (ok_Cloud_count T) hr (by first | decide | omega) T.c_Cloud T.t_Cloud_count (pa_cons (pv 4) pa_nil)) rfl)) (pss_nil)))) (pss_one (ps_ret (pe_mk (ok_Knowledge_init T) hr (by first | decide | omega) rfl T.g_Knowledge T.m_Knowledge (pa_cons (pe_fld (pv 1) rfl) (pa_cons (pv 3) pa_nil)))))), ?_⟩
    refine ⟨_, rfl, (by show 3 ≤ sizeLine; decide), fun L hL => ?_⟩
    have s1 := Same.new (o := .lst [.int 2, .int 3, .int 6]) hL
    refine ⟨dr, sc, L, _, rfl, hd.same s1, upd_same, hd.ne hL, (by show 0 < 3; decide), fun H2 j y s2 hd2 hy => ?_⟩
    obtain ⟨rate, rfl, rp⟩ : ∃ r : Nat, y = .int (r : Int) ∧ 0 < r := by
      match j, hy with
      | 0, hy => cases hy; exact ⟨2, rfl, by decide⟩
      | 1, hy => cases hy; exact ⟨3, rfl, by decide⟩
      | 2, hy => cases hy; exact ⟨6, rfl, by decide⟩
      | j + 3, hy => cases hy
    have s12 : SameX dr H H2 := (SameX.of_same s1).trans s2
    have hC2 := (hd.t s12).cloud hC
    refine fun d hdd => ⟨_, _, rfl, ?_⟩
    have s3 := Same.new (o := .dT []) hdd
    have hC3 := hC2.same s3
    obtain ⟨dxc3, sp3, ro3, hCi3, hS3, _⟩ := id hC3
    refine ⟨_, rfl, _, _, _, _, _, rfl, hCi3, T.c_Cloud, T.n_Cloud_space, lCloud_space, sp3, k, rfl, hS3, fun H4 r s4 fr ⟨as, hr4, has⟩ => ⟨r, rfl, ⟨_, SqL.of hr4⟩, ?_⟩⟩
    have hd4 : DrawAt K H4 dr sc := (hd2.same s3).same s4
    have nr : r ≠ dr := fun e => by
      obtain ⟨i, g⟩ := (hd2.same s3).at
      rw [← e, fr] at g
      cases g
    have nd : d ≠ dr := hd2.ne hdd
    have hd4d : H4 d = some (.dT []) := s4 _ _ upd_same
    have fd2 : H2 d = none := hdd
    have good : ∀ {j : Nat} {fs : List Pf}, fs.Sublist ((nodesTo k.D).take j) → FOk k fs := fun {j fs} h => by
      have h2 := h.trans (List.take_sublist _ _)
      exact ⟨List.Pairwise.sublist h2 (nodes_nodup k.D), fun p hp => valid_node.mpr (h2.subset hp)⟩
    refine for_list (xs := as.map V.ref) (fun j σ H5 => SameX dr H2 H5 ∧ DrawAt K H5 dr sc ∧ H5 r = some (.lst (as.map V.ref)) ∧ Paired (PfAt H5) as (nodesTo k.D) ∧ (∃ fs, H5 d = some (.dT (factD k f fs)) ∧ fs.Sublist ((nodesTo k.D).take j)) ∧ ∃ u, σ = [some (.ref dr), some (.ref cl), some (.int (rate : Int)), some (.ref d), u])
      ⟨SameX.of_same (s3.trans s4), hd4, hr4, has, ⟨[], hd4d, List.nil_sublist _⟩, none, rfl⟩ (fun j σ H5 _ ⟨_, _, h, _⟩ => SqL.of h) ?_ ?_
    · rintro j x σ H5 hx ⟨s5, hd5, hr5, has5, ⟨fs, hF5, hsub⟩, u, rfl⟩
      obtain ⟨g, hg, rfl⟩ := mapGet hx
      obtain ⟨p, hp, hgp⟩ := paired_get has5 hg
      refine ⟨_, rfl, _, rfl, dr, sc, rate, rfl, hd5, rp, fun H6 m s6 hd6 hm => ⟨rfl, _, rfl, ?_⟩⟩
      rw [show V.int 0 = V.int ((0 : Nat) : Int) from rfl, int_dec]
      have t6 := hd5.t s6
      have s56 := s5.trans s6
      have hF6 := s6 _ _ nd hF5
      have hr6 := s6 _ _ nr hr5
      have has6 := t6.pfs has5
      by_cases e : m = 0
      · rw [decide_eq_true e]
        have hC6 := (hd2.t s56).cloud hC2
        obtain ⟨dx6, sp6, ro6, hCi6, _⟩ := id hC6
        have vp : Valid k p := valid_node.mpr (List.mem_of_getElem? hp)
        have nm : p ∉ fs := fun m => by
          have m2 := hsub.subset m
          have nd2 : ((nodesTo k.D).take (j + 1)).Nodup := List.Pairwise.sublist (List.take_sublist _ _) (nodes_nodup k.D)
          rw [takeGet hp, List.nodup_append] at nd2
          exact nd2.2.2 p m2 p (List.mem_singleton.mpr rfl) rfl
        have ev : valV (factD k f fs) (kN p) = none := by rw [valV_fact, if_neg nm]
        have fl := (good hsub).len hS.1
        refine iteT ⟨_, rfl, _, _, _, rfl, hCi6, (by kernel_rfl), _, rfl, cl, g, k, f, p, rfl, hC6, t6.pf hgp, vp, _, rfl, _, rfl, d, _, rfl, DPut.t hF6 (t6.pf hgp).key (small8 (by unfold factD; rw [List.length_map]; omega)), ?_⟩
        have nrd : r ≠ d := ne_of hr6 hF6 (by intro z; cases z)
        refine ⟨sameX_on s56 fd2, hd2.base (sameX_on s56 fd2) (dr_on nd hd6.at), by rw [upd_ne nrd]; exact hr6, ?_, ⟨fs ++ [p], ?_, ?_⟩, some (.ref g), rfl⟩
        · refine paired_imp (fun b n h => ?_) has6
          have h' : H6 b = some (.tup _) := h
          show upd H6 d _ b = _
          rw [upd_ne (ne_of h' hF6 (by intro z; cases z))]
          exact h'
        · refine upd_same.trans (congrArg (fun l => some (HO.dT l)) ?_)
          rw [putK_new _ ev, factD_app]
          rfl
        · rw [takeGet hp]
          exact hsub.append (List.Sublist.refl _)
      · rw [decide_eq_false e]
        refine iteF ⟨s56, hd6, hr6, has6, ⟨fs, hF6, ?_⟩, some (.ref g), rfl⟩
        rw [takeGet hp]
        exact hsub.trans (List.sublist_append_left _ _)
    · rintro σ H5 ⟨s5, hd5, hr5, has5, ⟨fs, hF5, hsub⟩, u, rfl⟩
      have hC5 := (hd2.t s5).cloud hC2
      obtain ⟨dx5, sp5, ro5, hCi5, hS5, _⟩ := id hC5
      have ok := good hsub
      refine ⟨_, rfl, _, _, _, _, _, rfl, hCi5, T.c_Cloud, T.n_Cloud_space, lCloud_space, _, rfl, fun x dx nx ndx nex => ?_⟩
      have sb : Same H5 (upd (upd H5 dx (.own x)) x (.ins (He.ga K "Knowledge") dx [])) := fun b o e => by
        rw [upd_ne (ne_of_none e nx), upd_ne (ne_of_none e ndx)]
        exact e
      refine ⟨x, dx, sp5, d, k, f, fs, rfl, hS5.same sb, sb _ _ hF5, ok, upd_same, fun H7 d' s7 h7 hx7 => ⟨rfl, ?_⟩⟩
      have s8 := s7.made nx ndx
      exact q H7 x fs (s12.trans (s5.trans (SameX.of_same s8))) (hd5.same s8) ⟨dx, sp5, d', hx7, hS5.same s8, h7, ok⟩
end
end Fc

set_option Elab.async false
set_option autoImplicit false
set_option linter.all false
set_option maxRecDepth 100000
/-! Walks: all clouds that have the facts. -/
namespace Fc
open PySem PySem.Spec PyProof.Rows L2
/-- all rows of some points, in order -/
def rowsStep (rows : List (List (List Nat))) (pt : List Nat) : List (List (List Nat)) := rows ++ rows.map fun r => r ++ [pt]
def rowsM (pts : List (List Nat)) : List (List (List Nat)) := pts.foldl rowsStep [[]]
theorem rowsM_app (pts : List (List Nat)) (pt : List Nat) : rowsM (pts ++ [pt]) = rowsStep (rowsM pts) pt := by
  unfold rowsM
  rw [List.foldl_append]
  rfl
theorem rowsM_len (pts : List (List Nat)) : ∀ n : Nat, (rowsM (pts.take n)).length ≤ 2 ^ n
  | 0 => by simp [rowsM]
  | n + 1 => by
    cases e : pts[n]? with
    | none =>
      have : pts.take (n + 1) = pts.take n := by rw [List.take_succ, e]; simp
      rw [this, Nat.pow_succ]
      have := rowsM_len pts n
      omega
    | some x =>
      rw [takeGet e, rowsM_app]
      unfold rowsStep
      rw [List.length_append, List.length_map, Nat.pow_succ]
      have := rowsM_len pts n
      omega
theorem rowsM_sub : ∀ (n : Nat) (pts : List (List Nat)), pts.length = n → ∀ r, r ∈ rowsM pts ↔ r.Sublist pts
  | 0, pts, h, r => by
    have e := List.length_eq_zero_iff.mp h
    subst e
    show r ∈ [[]] ↔ _
    rw [List.mem_singleton, List.sublist_nil]
  | n + 1, pts, h, r => by
    have ne : pts ≠ [] := fun e => by rw [e] at h; cases h
    have e := (List.dropLast_concat_getLast ne).symm
    have ih := rowsM_sub n pts.dropLast (by rw [List.length_dropLast]; omega)
    rw [e, rowsM_app]
    unfold rowsStep
    rw [List.mem_append, List.mem_map, ih]
    constructor
    · rintro (h | ⟨r', h1, rfl⟩)
      · exact h.trans (List.sublist_append_left _ _)
      · exact ((ih r').mp h1).append (List.Sublist.refl _)
    · intro hs
      rw [List.sublist_append_iff] at hs
      obtain ⟨r1, r2, rfl, h1, h2⟩ := hs
      rcases List.sublist_cons_iff.mp h2 with h3 | ⟨r3, e3, h3⟩
      · rw [List.sublist_nil.mp h3, List.append_nil]
        exact .inl h1
      · rw [e3, List.sublist_nil.mp h3]
        exact .inr ⟨r1, (ih r1).mpr h1, rfl⟩
def okF (k : Kd) (f : Nat → Bool) (fs : List Pf) (r : List (List Nat)) : Bool := fs.all fun p => decide (cntM k (memF k r) p = cntM k f p)
def RowsL (H : Hp) (a : Addr) (rs : List (List (List Nat))) : Prop := ∃ as : List Addr, H a = some (.lst (as.map V.ref)) ∧ Paired (PtsAt H) as rs
theorem ptsAt_same {H H' : Hp} (s : Same H H') {as : List Addr} {rs : List (List (List Nat))} (h : Paired (PtsAt H) as rs) : Paired (PtsAt H') as rs := paired_imp (fun _ _ k => k.same s) h
theorem ptsAt_on {H : Hp} {D : Addr} {xs ys : List V} (hD : H D = some (.lst xs)) {b : Addr} {n : List (List Nat)} (h : PtsAt H b n) : PtsAt (upd H D (.lst ys)) b n := by
  obtain ⟨as, h1, h2⟩ := h
  exact ⟨as, by rw [upd_ne (ne_of h1 hD (by intro z; cases z))]; exact h1, paired_imp (fun _ _ k => tup_on hD k) h2⟩
theorem RowsL.same {H H' : Hp} {a : Addr} {rs : List (List (List Nat))} (s : Same H H') : RowsL H a rs → RowsL H' a rs := fun ⟨as, h, p⟩ => ⟨as, s _ _ h, ptsAt_same s p⟩
/-- a row makes a cloud -/
theorem row_ok {k : Kd} (hk : k ∈ kinds) {r : List (List Nat)} (h : r.Sublist (ptsK k)) : (∀ pt ∈ r, PtOk k pt) ∧ (r.map (wv k)).Nodup ∧ (∀ pt ∈ r, wv k pt < 2 ^ k.D) ∧ r.length ≤ 8 := by
  obtain ⟨w1, w2, w3⟩ := woven_facts hk
  refine ⟨fun pt hp => mem_ptsK.mp (h.subset hp), List.Pairwise.sublist (h.map _) w1, fun pt hp => w2 pt (h.subset hp), ?_⟩
  have := h.length_le
  have p8 := (pow_le8 hk 0).2
  rw [Nat.sub_zero] at p8
  omega
section
variable {P : Program} {w : World} {K : PySem.W.Frag} {mg : Str → Option Value} {base : Heap}
def spClouds (K : PySem.W.Frag) : Sp := fun vs H Q _ => ∃ (a : Addr) (k : Kd) (f : Nat → Bool) (fs : List Pf), vs = [.ref a] ∧ KnowAt K H a k f fs ∧ ∀ H' r, Same H H' → RowsL H' r ((rowsM (ptsK k)).filter (okF k f fs)) → Q (.ref r) H'
theorem sc_law_clouds : FnScope ["_law_knowledge", "_law_space", "_law_rows", "_law_point_here", "_law_found", "_law_row", "_law_cloud", "_law_prefix", "_law_count"] ["_law_knowledge"] d_law_clouds.scope := ⟨rfl, rfl, rfl, by decide +kernel, rfl, by decide +kernel, by decide +kernel⟩
theorem ok_law_clouds  (T : Tx K mg) : Ok P w K mg base 7 d_law_clouds ["_law_knowledge"] (spClouds K) := by
  refine T.at_law_clouds.ok sc_law_clouds (fun vs H Q E h => ?_) (fun _ _ _ _ _ _ us hl => match us, hl with | [_], _ => rfl) (fun cdv A outer s H vs Q E hr h => ?_)
  · obtain ⟨_, _, _, _, rfl, _⟩ := h; rfl
  · obtain ⟨a, k, f, fs, rfl, hKn, q⟩ := h
    obtain ⟨dx, sp, d, hK, hS, hd, ok⟩ := id hKn
    have big : ∀ {n : Nat}, n ≤ 10000 → n ≤ sizeLine := fun h => Nat.le_trans h (by decide)
    have plen : (ptsK k).length ≤ 8 := by
      have := (woven_facts hS.1).2.2
      have p8 := (pow_le8 hS.1 0).2
      rw [Nat.sub_zero] at p8
      omega
    refine ⟨_, pss_cons (ps_par (i := 1) (j := 2) (by rfl) sc_law_clouds.nd rfl rfl (by decide) rfl rfl (pa_cons (pe_fld (pv 0) rfl) (pa_cons (pe_lst (pa_cons (pe_tup pa_nil) pa_nil)) pa_nil)) (by rfl)) (pss_cons (ps_for PassesOwn.never rfl (pi_list (pe_fc (ok_law_all T) hr (by first | decide | omega) rfl T.g_law_all (pa_cons (pv 1) pa_nil))) (pg_name (i := 3) sc_law_clouds.nd rfl (Or.inr rfl)) (pss_one (ps_set (i := 2) sc_law_clouds.nd rfl (Or.inl rfl) (pe_op op_cat (pv 2) (pe_lc (own := [("_law_row", 5)]) rfl sc_law_clouds.nd (pi_list (pv 2)) (blkOk_by (own := [("_law_row", 5)]) (N := ["_law_knowledge", "_law_space", "_law_rows", "_law_point_here", "_law_found", "_law_row", "_law_cloud", "_law_prefix", "_law_count"]) (sc := d_law_clouds.scope) (by decide +kernel)) (fun _ _ _ _ _ => pg_name (i := 5) sc_law_clouds.nd rfl (Or.inl rfl)) (fun _ _ _ _ _ => pts_nil) (fun _ _ _ _ _ => pe_op (op_catK (K0 := K) rfl) (pv 5) (pe_tup (pa_cons (pv 3) pa_nil)))))))) (pss_cons (ps_set (i := 4) sc_law_clouds.nd rfl (Or.inl rfl) (pe_lst pa_nil)) (pss_cons (ps_for PassesOwn.never rfl (pi_list (pv 2)) (pg_name (i := 5) sc_law_clouds.nd rfl (Or.inl rfl)) (pss_cons (ps_set (i := 6) sc_law_clouds.nd rfl (Or.inr rfl) (pe_mk (ok_Cloud_init T) hr (by first | decide | omega) rfl T.g_Cloud T.m_Cloud (pa_cons (pv 1) (pa_cons (pv 5) pa_nil)))) (pss_one (ps_if (pt_val (pe_callB (cr_all rfl) rfl T.f_all (by decide +kernel) (pa_cons (pe_lock (pe_lc (own := [("_law_prefix", 7), ("_law_count", 8)]) rfl sc_law_clouds.nd (pi_itemsT (pe_fld (pv 0) rfl)) (blkOk_by (own := [("_law_prefix", 7), ("_law_count", 8)]) (N := ["_law_knowledge", "_law_space", "_law_rows", "_law_point_here", "_law_found", "_law_row", "_law_cloud", "_law_prefix", "_law_count"]) (sc := d_law_clouds.scope) (by decide +kernel)) (fun _ _ _ _ _ => pg_tupK (K0 := K) (n := 2) rfl rfl (pgs_cons (pg_name (i := 7) sc_law_clouds.nd rfl (Or.inl rfl)) (pgs_cons (pg_name (i := 8) sc_law_clouds.nd rfl (Or.inl rfl)) pgs_nil))) (fun _ _ _ _ _ => pts_nil) (fun _ _ _ _ _ => pe_cmpR op_eq (pe_mcK (K0 := K) rfl (pv 6) (ok_Cloud_count T) hr (by first | decide | omega) T.c_Cloud T.t_Cloud_count (pa_cons (pv 7) pa_nil)) (pv 8) (nomark _)))) pa_nil))) (pss_one (ps_expr (pe_bm PySem.F.plainAttrs_list PySem.F.slot_list_append PySem.F.type_list_append mt_append (pv 4) (pa_cons (pv 5) pa_nil)))) (pss_nil))))) (pss_one (ps_ret (pv 4)))))), ?_⟩
    refine ⟨_, rfl, _, _, _, _, _, rfl, hK, T.c_Knowledge, T.n_Knowledge_space, lKnowledge_space, Nat.zero_le _, fun e he => ⟨(by show 1 ≤ sizeLine; decide), fun R0 hR => ⟨_, _, rfl, ?_⟩⟩⟩
    have s1 := (Same.new (o := .tup []) he).trans (Same.new (o := .lst [.ref e]) hR)
    refine ⟨_, rfl, sp, k, rfl, hS.same s1, fun H2 r s2 fr ⟨as, hr2, has⟩ => ⟨r, rfl, ⟨_, SqL.of hr2⟩, ?_⟩⟩
    have s12 := s1.trans s2
    refine for_list (xs := as.map V.ref) (fun i σ H3 => Same H2 H3 ∧ ∃ R u, RowsL H3 R (rowsM ((ptsK k).take i)) ∧ σ = [some (.ref a), some (.ref sp), some (.ref R), u, none, none, none, none, none])
      ⟨Same.refl _, R0, none, ⟨[e], s2 _ _ upd_same, .cons ⟨[], s2 _ _ (Same.new hR _ _ upd_same), .nil⟩ .nil⟩, rfl⟩ (fun i σ H3 _ ⟨s3, _⟩ => SqL.of (s3 _ _ hr2)) ?_ ?_
    · rintro i x σ H3 hx ⟨s3, R, u, ⟨rs, hR3, hrs⟩, rfl⟩
      obtain ⟨g, hg, rfl⟩ := mapGet hx
      obtain ⟨pt, hpt, hgp⟩ := paired_get has hg
      have hgp3 := hgp.same s3
      have il := (List.getElem?_eq_some_iff.mp hpt).1
      have rl := rowsM_len (ptsK k) i
      have pw : 2 ^ i ≤ 2 ^ 8 := Nat.pow_le_pow_right (by decide) (by omega)
      refine ⟨_, rfl, _, rfl, R, rfl, ⟨_, SqL.of hR3⟩, fun D hD => ?_⟩
      refine lc_list (xs := rs.map V.ref) (fun j H4 => Same H3 H4 ∧ ∃ ds, H4 D = some (.lst (ds.map V.ref)) ∧ Paired (PtsAt H4) ds (((rowsM ((ptsK k).take i)).take j).map fun r => r ++ [pt])) ⟨Same.new hD, [], upd_same, .nil⟩ (fun j H4 _ ⟨s4, _⟩ => SqL.of (s4 _ _ hR3)) ?_ ?_
      · rintro j y H4 hy ⟨s4, ds, hD4, hds⟩
        obtain ⟨b, hb, rfl⟩ := mapGet hy
        obtain ⟨row, hrow, hbr⟩ := paired_get hrs hb
        obtain ⟨ps, hb4, hps⟩ := hbr.same s4
        have hgp4 := hgp3.same s4
        refine ⟨rfl, _, rfl, _, rfl, (by show 1 ≤ sizeLine; decide), fun g2 hg2 => ?_⟩
        have s5 := Same.new (o := .tup [.ref g]) hg2
        have jl := (List.getElem?_eq_some_iff.mp hrow).1
        have dl : ds.length ≤ 2 ^ 8 := by
          rw [paired_len hds, List.length_map, List.length_take]
          omega
        have dl2 : (ds.map V.ref).length < sizeLine := by
          rw [List.length_map]
          have : (1000 : Nat) < sizeLine := by decide
          omega
        have put : ∀ {H5 : Hp} {c : Addr}, Same H4 H5 → PtsAt H5 c (row ++ [pt]) → Same H3 (upd H5 D (.lst (ds.map V.ref ++ [.ref c]))) ∧ ∃ ds', (upd H5 D (.lst (ds.map V.ref ++ [.ref c]))) D = some (.lst (ds'.map V.ref)) ∧ Paired (PtsAt (upd H5 D (.lst (ds.map V.ref ++ [.ref c])))) ds' (((rowsM ((ptsK k).take i)).take (j + 1)).map fun r => r ++ [pt]) := by
          intro H5 c s6 hc
          refine ⟨same_on (s4.trans s6) hD, ds ++ [c], by rw [List.map_append]; exact upd_same, ?_⟩
          rw [takeGet hrow, List.map_append]
          have hD5 := s6 _ _ hD4
          exact paired_snoc (paired_imp (fun _ _ h => ptsAt_on hD5 h) (ptsAt_same s6 hds)) (ptsAt_on hD5 hc)
        refine ⟨b, g2, ps.map V.ref, [.ref g], rfl, rfl, SqT.of (s5 _ _ hb4), SqT.of upd_same, ?_, fun e => ?_, fun _ e => (by cases e), fun e1 _ p hp => ?_⟩
        · refine big ?_
          rw [List.length_map, paired_len hps]
          have hsub := (rowsM_sub _ _ rfl row).mp (List.mem_of_getElem? hrow)
          have := (hsub.trans (List.take_sublist _ _)).length_le
          show row.length + 1 ≤ _
          omega
        · have ep : ps = [] := List.map_eq_nil_iff.mp e
          have er : row = [] := List.length_eq_zero_iff.mp (by rw [← paired_len hps, ep]; rfl)
          exact ⟨_, s5 _ _ hD4, dl2, put s5 ⟨[g], upd_same, by rw [er]; exact .cons (hgp4.same s5) .nil⟩⟩
        · have s6 := Same.new (o := .tup (ps.map V.ref ++ [.ref g])) hp
          have s56 := s5.trans s6
          exact ⟨_, s56 _ _ hD4, dl2, put s56 ⟨ps ++ [g], by rw [List.map_append]; exact upd_same, paired_snoc (paired_same s56 hps) (hgp4.same s56)⟩⟩
      · rintro H4 ⟨s4, ds, hD4, hds⟩
        rw [List.length_map, paired_len hrs, List.take_length] at hds
        refine ⟨R, D, _, _, rfl, rfl, s4 _ _ hR3, hD4, ?_, fun p hp => ?_⟩
        · refine big ?_
          rw [List.length_map, List.length_map, paired_len hrs, paired_len hds, List.length_map]
          omega
        · have s5 := Same.new (o := .lst (rs.map V.ref ++ ds.map V.ref)) hp
          refine ⟨(s3.trans s4).trans s5, p, some (.ref g), ⟨rs ++ ds, by rw [List.map_append]; exact upd_same, ?_⟩, rfl⟩
          rw [takeGet hpt, rowsM_app]
          exact ptsAt_same s5 (paired_app (ptsAt_same s4 hrs) hds)
    · rintro σ H3 ⟨s3, R, u, ⟨rs, hR3, hrs⟩, rfl⟩
      rw [List.length_map, paired_len has, List.take_length] at hrs
      have s13 := s12.trans s3
      refine ⟨Nat.zero_le _, fun F hF => ?_⟩
      have sF := Same.new (o := .lst []) hF
      refine ⟨_, rfl, R, rfl, ⟨_, SqL.of (sF _ _ hR3)⟩, ?_⟩
      refine for_list (xs := rs.map V.ref) (fun j σ H4 => Same H3 H4 ∧ (∃ ds, H4 F = some (.lst (ds.map V.ref)) ∧ Paired (PtsAt H3) ds (((rowsM (ptsK k)).take j).filter (okF k f fs))) ∧ ∃ u2 u3, σ = [some (.ref a), some (.ref sp), some (.ref R), u, some (.ref F), u2, u3, none, none]) ⟨sF, ⟨[], upd_same, .nil⟩, none, none, rfl⟩ (fun j σ H4 _ ⟨s4, _⟩ => SqL.of (s4 _ _ hR3)) ?_ ?_
      · rintro j y σ H4 hy ⟨s4, ⟨ds, hF4, hds⟩, u2, u3, rfl⟩
        obtain ⟨b, hb, rfl⟩ := mapGet hy
        obtain ⟨row, hrow, hbr⟩ := paired_get hrs hb
        have rok := row_ok hS.1 ((rowsM_sub _ _ rfl row).mp (List.mem_of_getElem? hrow))
        have jl := (List.getElem?_eq_some_iff.mp hrow).1
        have rl := rowsM_len (ptsK k) (ptsK k).length
        rw [List.take_length] at rl
        have pw : 2 ^ (ptsK k).length ≤ 2 ^ 8 := Nat.pow_le_pow_right (by decide) plen
        have s14 := s13.trans s4
        refine ⟨_, rfl, _, rfl, fun x dx2 nx ndx nex => ?_⟩
        have sb : Same H4 (upd (upd H4 dx2 (.own x)) x (.ins (He.ga K "Cloud") dx2 [])) := fun b o e => by
          rw [upd_ne (ne_of_none e nx), upd_ne (ne_of_none e ndx)]
          exact e
        refine ⟨x, dx2, sp, b, k, row, rfl, (hS.same s14).same sb, (hbr.same s4).same sb, rok.1, rok.2.1, rok.2.2.1, rok.2.2.2, upd_same, fun H5 ro s5 hro5 hx5 => ⟨rfl, ?_⟩⟩
        have s6 := s5.made nx ndx
        have s16 := s14.trans s6
        have hC5 : CloudAt K H5 x k (memF k row) := ⟨dx2, sp, ro, hx5, hS.same s16, hro5⟩
        -- all counts, the facts locked
        have hd5 := s16 _ _ hd
        refine ⟨d, _, hd5, trivial, fun od => ?_⟩
        generalize hHL : upd H5 d (.frz od (.dT (factD k f fs))) = HL
        have onL : ∀ {b : Addr} {o : HO}, b ≠ d → H5 b = some o → HL b = some o := fun n e => by rw [← hHL, upd_ne n]; exact e
        have hdL : HL d = some (.frz od (.dT (factD k f fs))) := by rw [← hHL]; exact upd_same
        have nk : a ≠ d := ne_of (s16 _ _ hK) hd5 (by intro z; cases z)
        have nx5 : x ≠ d := ne_of hx5 hd5 (by intro z; cases z)
        have nsp : sp ≠ d := by
          obtain ⟨dxs, hs5⟩ := (hS.same s16).2
          exact ne_of hs5 hd5 (by intro z; cases z)
        have nro : ro ≠ d := by
          have e : H5 ro = some (.tup _) := hro5
          exact ne_of e hd5 (by intro z; cases z)
        have hCL : CloudAt K HL x k (memF k row) := ⟨dx2, sp, ro, onL nx5 hx5, ⟨hS.1, (hS.same s16).2.imp fun _ e => onL nsp e⟩, onL nro hro5⟩
        refine ⟨_, rfl, _, _, _, _, _, rfl, onL nk (s16 _ _ hK), T.c_Knowledge, T.n_Knowledge_facts, lKnowledge_facts, d, od, _, rfl, hdL, fun D hD => ?_⟩
        have lenF : (factD k f fs).length = fs.length := by unfold factD; exact List.length_map ..
        have l15 := ok.len hS.1
        refine lc_it walk_itemsT (fun i H6 => Same HL H6 ∧ H6 D = some (.lst (((fs.take i).map fun p => decide (cntM k (memF k row) p = cntM k f p)).map V.bl))) ⟨Same.new hD, upd_same⟩ (fun i H6 _ ⟨s7, _⟩ => s7 _ _ hdL) ?_ ?_
        · rintro i y H6 H7 hi ⟨s7, h7⟩ ⟨z, g, k0, v0, e0, rfl, hg, hz, rfl⟩
          obtain ⟨p0, hp0, rfl, rfl⟩ := factD_get e0
          have vp := ok.2 p0 (List.mem_of_getElem? hp0)
          have sz := Same.new (o := .tup [.ref g, nV (cntM k f p0)]) hz
          have s78 := s7.trans sz
          have hC7 := hCL.same s78
          obtain ⟨dx7, sp7, ro7, hCi7, _⟩ := id hC7
          refine ⟨z, _, rfl, SqT.of upd_same, rfl, _, _, rfl, _, _, rfl, rfl, rfl, ?_⟩
          refine ⟨_, rfl, _, _, _, rfl, hCi7, (by kernel_rfl), _, rfl, x, g, k, memF k row, p0, rfl, hC7, sz _ _ hg, vp, _, rfl, rfl, _, sz _ _ h7, ?_, same_on s78 hD, upd_same.trans (congrArg (fun l => some (HO.lst l)) ?_)⟩
          · rw [List.length_map, List.length_map, List.length_take]
            exact small8 (by omega)
          · show _ ++ [V.bl (decide (V.int ((cntM k (memF k row) p0 : Nat) : Int) = V.int ((cntM k f p0 : Nat) : Int)))] = _
            rw [int_dec, takeGet hp0, List.map_append, List.map_append]
            rfl
        · rintro H6 ⟨s7, h7⟩
          rw [lenF, List.take_length] at h7
          have nD : D ≠ d := fun e => by rw [e, hdL] at hD; cases hD
          refine ⟨s7 _ _ hdL, ?_⟩
          have s58 : Same H5 (upd H6 d (.dT (factD k f fs))) := by
            refine same_lock hd5 ?_ (o := od)
            rw [hHL]
            exact s7
          have s68 : Same H4 (upd H6 d (.dT (factD k f fs))) := s6.trans s58
          refine ⟨D, _, rfl, SqL.of (by rw [upd_ne nD]; exact h7), _, rfl, ?_⟩
          have ea : (fs.map fun p => decide (cntM k (memF k row) p = cntM k f p)).all id = okF k f fs row := by
            unfold okF
            rw [List.all_map]
            rfl
          rw [ea]
          have tk : ((rowsM (ptsK k)).take (j + 1)).filter (okF k f fs) = ((rowsM (ptsK k)).take j).filter (okF k f fs) ++ (if okF k f fs row = true then [row] else []) := by
            rw [takeGet hrow, List.filter_append]
            congr 1
            cases eo : okF k f fs row <;> simp [eo]
          rw [tk]
          cases eo : okF k f fs row with
          | true =>
            have hF8 := s68 _ _ hF4
            refine iteT ⟨_, rfl, .inl ⟨rfl, _, SqL.of hF8⟩, _, rfl, F, _, _, rfl, rfl, hF8, ?_, same_on (s4.trans s68) hF, ⟨ds ++ [b], by rw [List.map_append]; exact upd_same, ?_⟩, some (.ref b), some (.ref x), rfl⟩
            · rw [List.length_map, paired_len hds]
              have h1 := List.length_filter_le (okF k f fs) ((rowsM (ptsK k)).take j)
              rw [List.length_take] at h1
              have : (1000 : Nat) < sizeLine := by decide
              omega
            · exact paired_snoc hds hbr
          | false =>
            refine iteF ⟨s4.trans s68, ⟨ds, s68 _ _ hF4, ?_⟩, some (.ref b), some (.ref x), rfl⟩
            rw [if_neg (by decide), List.append_nil]
            exact hds
      · rintro σ H4 ⟨s4, ⟨ds, hF4, hds⟩, u2, u3, rfl⟩
        rw [List.length_map, paired_len hrs, List.take_length] at hds
        exact ⟨_, rfl, q _ F (s13.trans s4) ⟨ds, hF4, ptsAt_same s4 hds⟩⟩
end
end Fc

set_option Elab.async false
set_option autoImplicit false
set_option linter.all false
set_option maxRecDepth 100000
/-! Walks: what all clouds have alike. -/
namespace Fc
open PySem PySem.Spec PyProof.Rows L2
def AlikeR (k : Kd) (c n : Nat) (rs : List (List (List Nat))) : Prop := ∀ r1 ∈ rs, ∀ r2 ∈ rs, cntM k (memF k r1) (c, n) = cntM k (memF k r2) (c, n)
def SeesR (k : Kd) (lo hi : List Nat) (c : Nat) (rs : List (List (List Nat))) : Prop := ∀ n, n < 2 ^ c → 0 < roomM k lo hi (c, n) → AlikeR k c n rs
section
variable {P : Program} {w : World} {K : PySem.W.Frag} {mg : Str → Option Value} {base : Heap}
/-- the number of cells, as a range's end -/
theorem cells_range {k : Kd} (hk : k ∈ kinds) {c : Nat} (hc : c ≤ k.D) : ((2 ^ (k.D - 0) : Nat) : Int).fdiv ((2 ^ (k.D - c) : Nat) : Int) = ((2 ^ c : Nat) : Int) ∧ (((2 ^ (k.D - c) : Nat) : Int) ≠ 0 ∧ ((2 ^ (k.D - c) : Nat) : Int).natAbs < 1073741824) ∧ (-(2 ^ 62) ≤ ((2 ^ c : Nat) : Int) ∧ ((2 ^ c : Nat) : Int) < 2 ^ 62) ∧ 2 ^ c ≤ 8 := by
  have kl := kinds_le hk
  have pi2 : 2 ^ (k.D - c) ≤ 8 ∧ 1 ≤ 2 ^ (k.D - c) := ⟨(pow_le8 hk c).2, (pow_le8 hk c).1⟩
  have pw2 : 2 ^ c ≤ 8 := Nat.le_trans (Nat.pow_le_pow_right (by decide) (show c ≤ 3 by omega)) (Nat.le_refl 8)
  refine ⟨?_, ?_, ?_, pw2⟩
  · rw [fdivN]
    have : 2 ^ (k.D - 0) = 2 ^ c * 2 ^ (k.D - c) := by
      rw [← Nat.pow_add]
      congr 1
      omega
    rw [this, Nat.mul_div_cancel _ (Nat.two_pow_pos _)]
  · obtain ⟨p1, p2⟩ := pi2
    revert p1 p2
    generalize 2 ^ (k.D - c) = z
    intro p1 p2
    omega
  · revert pw2
    generalize 2 ^ c = z
    intro p1
    omega
def spSees (K : PySem.W.Frag) : Sp := fun vs H Q _ => ∃ (rw sp b : Addr) (c : Nat) (k : Kd) (lo hi : List Nat) (rs : List (List (List Nat))), vs = [.ref rw, .ref sp, .ref b, .int (c : Int)] ∧ RowsL H rw rs ∧ rs ≠ [] ∧ rs.length ≤ 256 ∧ (∀ r ∈ rs, r.Sublist (ptsK k)) ∧ SpaceAt K H sp k ∧ BoxL K H b k lo hi ∧ c ≤ k.D ∧
  ∀ H' r, Same H H' → (r = true ↔ SeesR k lo hi c rs) → Q (.bl r) H'
theorem sc_law_sees : FnScope ["_law_rows", "_law_space", "_law_box_here", "_law_fineness", "_law_number_here", "_law_counts", "_law_row"] ["_law_rows", "_law_space", "_law_box_here", "_law_fineness"] d_law_sees.scope := ⟨rfl, rfl, rfl, by decide +kernel, rfl, by decide +kernel, by decide +kernel⟩
theorem ok_law_sees  (T : Tx K mg) : Ok P w K mg base 7 d_law_sees ["_law_rows", "_law_space", "_law_box_here", "_law_fineness"] (spSees K) := by
  refine T.at_law_sees.ok sc_law_sees (fun vs H Q E h => ?_) (fun _ _ _ _ _ _ us hl => match us, hl with | [_, _, _, _], _ => rfl) (fun cdv A outer s H vs Q E hr h => ?_)
  · obtain ⟨_, _, _, _, _, _, _, _, rfl, _⟩ := h; rfl
  · obtain ⟨rw', sp, b, c, k, lo, hi, rs, rfl, ⟨as, hR, has⟩, hne, l256, hsub, hS, hB, hc, q⟩ := h
    obtain ⟨dxs, hSi⟩ := hS.2
    obtain ⟨dxb, spb, al, ah, hBi, _⟩ := id hB.1
    obtain ⟨ed, nz, bd, pw2⟩ := cells_range hS.1 hc
    refine ⟨_, pss_cons (ps_for PassesOwn.never rfl (pi_range1 rfl T.f_range (pa_cons (pe_op op_fdivN (pe_mc (pv 1) (ok_Space_size T) hr (by first | decide | omega) T.c_Space T.t_Space_size (pa_cons (pe_tup (pa_cons pe_int (pa_cons pe_int pa_nil))) pa_nil)) (pe_mc (pv 1) (ok_Space_size T) hr (by first | decide | omega) T.c_Space T.t_Space_size (pa_cons (pe_tup (pa_cons (pv 3) (pa_cons pe_int pa_nil))) pa_nil))) pa_nil)) (pg_name (i := 4) sc_law_sees.nd rfl (Or.inr rfl)) (pss_one (ps_if (pt_cmpR op_gt (pe_mc (pv 2) (ok_Box_room T) hr (by first | decide | omega) T.c_Box T.t_Box_room (pa_cons (pe_tup (pa_cons (pv 3) (pa_cons (pv 4) pa_nil))) pa_nil)) pe_int (nomark _)) (pss_cons (ps_setLc (i := 5) (own := [("_law_row", 6)]) rfl sc_law_sees.nd rfl rfl (sw_true rfl rfl rfl (by decide +kernel)) (pi_list (pv 0)) (blkOk_by (own := [("_law_row", 6)]) (N := ["_law_rows", "_law_space", "_law_box_here", "_law_fineness", "_law_number_here", "_law_counts", "_law_row"]) (sc := d_law_sees.scope) (by decide +kernel)) (fun _ _ _ _ _ => pg_name (i := 6) sc_law_sees.nd rfl (Or.inl rfl)) (fun _ _ _ _ _ => pts_nil) (fun _ _ _ _ _ => pe_mcK (K0 := K) rfl (pe_mkK (K0 := K) rfl (ok_Cloud_init T) hr (by first | decide | omega) rfl T.g_Cloud T.m_Cloud (pa_cons (pv 1) (pa_cons (pv 6) pa_nil))) (ok_Cloud_count T) hr (by decide) T.c_Cloud T.t_Cloud_count (pa_cons (pe_tup (pa_cons (pv 3) (pa_cons (pv 4) pa_nil))) pa_nil))) (pss_one (ps_if (pt_cmpR op_ne (pe_callB (cr_min rfl) rfl T.f_min (by decide +kernel) (pa_cons (pv 5) pa_nil)) (pe_callB (cr_max rfl) rfl T.f_max (by decide +kernel) (pa_cons (pv 5) pa_nil)) (nomark _)) (pss_one (ps_ret pe_bl)) (pss_nil)))) (pss_nil)))) (pss_one (ps_ret pe_bl)), ?_⟩
    refine ⟨_, rfl, _, _, _, rfl, hSi, (by kernel_rfl), two_line, fun g hg => ?_⟩
    have s1 := Same.new (o := .tup [.int 0, .int 0]) hg
    refine ⟨sp, g, k, (0, 0), rfl, hS.same s1, upd_same, Nat.zero_le _, ?_⟩
    refine ⟨_, rfl, _, _, _, rfl, (s1 _ _ hSi), (by kernel_rfl), _, rfl, two_line, fun g2 hg2 => ?_⟩
    have s2 := s1.trans (Same.new (o := .tup [.int (c : Int), .int 0]) hg2)
    refine ⟨sp, g2, k, (c, 0), rfl, hS.same s2, upd_same, hc, ?_⟩
    refine ⟨_, _, rfl, rfl, nz, ((2 ^ c : Nat) : Int), congrArg (fun z => [V.int z]) ed, bd.1, bd.2, ?_⟩
    refine for_range (lo := 0) (n := 2 ^ c) (fun i σ H2 => Same H H2 ∧ (∀ n, n < i → 0 < roomM k lo hi (c, n) → AlikeR k c n rs) ∧ ∃ u v, σ = [some (.ref rw'), some (.ref sp), some (.ref b), some (.int (c : Int)), u, v, none]) ⟨s2, fun n hn => absurd hn (Nat.not_lt_zero _), none, none, rfl⟩ ?_ ?_
    · rintro i σ H2 hi' ⟨s3, hall, u, v, rfl⟩
      have e0 : (0 : Int) + (i : Int) = (i : Int) := Int.zero_add _
      refine ⟨_, rfl, _, _, _, rfl, (s3 _ _ hBi), (by kernel_rfl), _, rfl, _, rfl, two_line, fun g3 hg3 => ?_⟩
      have s4 := Same.new (o := .tup [.int (c : Int), .int (0 + (i : Int))]) hg3
      have s34 := s3.trans s4
      have hp3 : PfAt (upd H2 g3 (.tup [.int (c : Int), .int (0 + (i : Int))])) g3 (c, i) := by
        refine upd_same.trans ?_
        rw [e0]
      have vi : Valid k (c, i) := ⟨hc, hi'⟩
      refine ⟨b, g3, k, lo, hi, (c, i), rfl, hB.1.same s34, hp3, hc, fun H4 s5 => ⟨_, _, rfl, rfl, _, rfl, ?_⟩⟩
      have s35 := s34.trans s5
      by_cases hroom : 0 < roomM k lo hi (c, i)
      · rw [show decide (((roomM k lo hi (c, i) : Nat) : Int) > 0) = true from decide_eq_true (by omega)]
        refine iteT ⟨_, rfl, rw', rfl, ⟨_, SqL.of (s35 _ _ hR)⟩, fun D hD => ?_⟩
        refine lc_list (xs := as.map V.ref) (fun j H5 => Same H4 H5 ∧ H5 D = some (.lst ((((rs.take j).map fun r => cntM k (memF k r) (c, i)).map fun x : Nat => (x : Int)).map V.int))) ⟨Same.new hD, upd_same⟩ (fun j H5 _ ⟨s6, _⟩ => SqL.of (s6 _ _ (s35 _ _ hR))) ?_ ?_
        · rintro j y H5 hy ⟨s6, h5⟩
          obtain ⟨a', ha', rfl⟩ := mapGet hy
          obtain ⟨r, hr', hrr⟩ := paired_get has ha'
          have rok := row_ok hS.1 (hsub r (List.mem_of_getElem? hr'))
          have s36 := s35.trans s6
          have jl := (List.getElem?_eq_some_iff.mp hr').1
          refine ⟨rfl, _, rfl, _, rfl, fun x dx2 nx ndx nex => ?_⟩
          have sb : Same H5 (upd (upd H5 dx2 (.own x)) x (.ins (He.ga K "Cloud") dx2 [])) := fun b o e => by
            rw [upd_ne (ne_of_none e nx), upd_ne (ne_of_none e ndx)]
            exact e
          refine ⟨x, dx2, sp, a', k, r, rfl, (hS.same s36).same sb, (hrr.same s36).same sb, rok.1, rok.2.1, rok.2.2.1, rok.2.2.2, upd_same, fun H6 ro s7 hro hx6 => ⟨rfl, ?_⟩⟩
          have s8 := s7.made nx ndx
          have s38 := s36.trans s8
          refine ⟨x, _, _, rfl, hx6, (by kernel_rfl), _, rfl, _, rfl, two_line, fun g4 hg4 => ?_⟩
          have s9 := Same.new (o := .tup [.int (c : Int), .int (0 + (i : Int))]) hg4
          have hp4 : PfAt (upd H6 g4 (.tup [.int (c : Int), .int (0 + (i : Int))])) g4 (c, i) := by
            refine upd_same.trans ?_
            rw [e0]
          have s89 := s8.trans s9
          refine ⟨x, g4, k, memF k r, (c, i), rfl, ⟨dx2, sp, ro, s9 _ _ hx6, (hS.same s38).same s9, s9 _ _ hro⟩, hp4, vi, _, s89 _ _ h5, ?_, same_on (s6.trans s89) hD, upd_same.trans (congrArg (fun l => some (HO.lst l)) ?_)⟩
          · rw [List.length_map, List.length_map, List.length_map, List.length_take]
            have : (1000 : Nat) < sizeLine := by decide
            omega
          · rw [takeGet hr', List.map_append, List.map_append, List.map_append]
            rfl
        · rintro H5 ⟨s6, h5⟩
          rw [List.length_map, paired_len has, List.take_length] at h5
          have s36 := s35.trans s6
          have lpos : 0 < ((rs.map fun r => cntM k (memF k r) (c, i)).map fun x : Nat => (x : Int)).length := by
            rw [List.length_map, List.length_map]
            exact List.length_pos_iff.mpr hne
          refine ⟨_, rfl, D, _, rfl, SqL.of h5, lpos, fun m1 hm1 le1 => ?_⟩
          refine ⟨_, rfl, D, _, rfl, SqL.of h5, lpos, fun m2 hm2 le2 => ⟨rfl, _, rfl, ?_⟩⟩
          have mem : ∀ {z : Int}, z ∈ ((rs.map fun r => cntM k (memF k r) (c, i)).map fun x : Nat => (x : Int)) ↔ ∃ r ∈ rs, z = (cntM k (memF k r) (c, i) : Int) := by
            intro z
            rw [List.mem_map]
            constructor
            · rintro ⟨y, hy, rfl⟩
              obtain ⟨r, hr', rfl⟩ := List.mem_map.mp hy
              exact ⟨r, hr', rfl⟩
            · rintro ⟨r, hr', rfl⟩
              exact ⟨_, List.mem_map.mpr ⟨r, hr', rfl⟩, rfl⟩
          by_cases e : m1 = m2
          · rw [show decide (V.int m1 = V.int m2) = true from decide_eq_true (by rw [e])]
            refine ⟨s36, fun n hn hr' => ?_, some (.int (0 + i)), some (.ref D), rfl⟩
            by_cases en : n = i
            · subst en
              intro r1 h1 r2 h2
              have a1 := le1 _ (mem.mpr ⟨r1, h1, rfl⟩)
              have a2 := le2 _ (mem.mpr ⟨r1, h1, rfl⟩)
              have a3 := le1 _ (mem.mpr ⟨r2, h2, rfl⟩)
              have a4 := le2 _ (mem.mpr ⟨r2, h2, rfl⟩)
              omega
            · exact hall n (by omega) hr'
          · rw [show decide (V.int m1 = V.int m2) = false from decide_eq_false fun z => e (by injection z)]
            refine iteT (q _ false s36 ⟨fun z => (by cases z), fun z => ?_⟩)
            exfalso
            obtain ⟨r1, h1, e1⟩ := mem.mp hm1
            obtain ⟨r2, h2, e2⟩ := mem.mp hm2
            have := z i hi' hroom r1 h1 r2 h2
            exact e (by rw [e1, e2, this])
      · rw [show decide (((roomM k lo hi (c, i) : Nat) : Int) > 0) = false from decide_eq_false (by omega)]
        refine iteF ⟨s35, fun n hn hr' => ?_, some (.int (0 + i)), v, rfl⟩
        by_cases en : n = i
        · subst en
          exact absurd hr' hroom
        · exact hall n (by omega) hr'
    · rintro σ H2 ⟨s3, hall, u, v, rfl⟩
      exact q _ true s3 ⟨fun _ => hall, fun _ => rfl⟩
end
end Fc

set_option Elab.async false
set_option autoImplicit false
set_option linter.all false
set_option maxRecDepth 100000
/-! The law, in plain mathematics: what the program computes answers as the law asks. -/
namespace Fc
section
variable {k : Kd} (hk : k ∈ kinds)
include hk
theorem woven_onto {a : Nat} (h : a < 2 ^ k.D) : ∃ pt ∈ ptsK k, wv k pt = a := by
  obtain ⟨w1, w2, w3⟩ := woven_facts hk
  refine Classical.byContradiction fun z => ?_
  have nm : a ∉ (ptsK k).map (wv k) := fun m => by
    obtain ⟨pt, h1, h2⟩ := List.mem_map.mp m
    exact z ⟨pt, h1, h2⟩
  have := nodup_len (xs := a :: (ptsK k).map (wv k)) (L := List.range (2 ^ k.D)) (List.nodup_cons.mpr ⟨nm, w1⟩) (fun x hx => by
    rcases List.mem_cons.mp hx with e | hx
    · rw [e]; exact List.mem_range.mpr h
    · obtain ⟨pt, h1, rfl⟩ := List.mem_map.mp hx
      exact List.mem_range.mpr (w2 pt h1))
  rw [List.length_cons, List.length_map, List.length_range, w3] at this
  omega
/-- every cloud is that of a row -/
theorem row_of (Y : Nat → Bool) : ∃ r, r.Sublist (ptsK k) ∧ ∀ a, a < 2 ^ k.D → memF k r a = Y a := by
  refine ⟨(ptsK k).filter fun pt => Y (wv k pt), List.filter_sublist, fun a ha => ?_⟩
  unfold memF
  rw [Bool.eq_iff_iff, decide_eq_true_eq, List.mem_map]
  constructor
  · rintro ⟨pt, h1, h2⟩
    rw [← h2]
    exact (List.mem_filter.mp h1).2
  · intro hy
    obtain ⟨pt, h1, h2⟩ := woven_onto hk ha
    exact ⟨pt, List.mem_filter.mpr ⟨h1, by rw [h2]; exact hy⟩, h2⟩
end
theorem point_lt {D h n a : Nat} (i : Ins D 0 h n) (e : a / 2 ^ h = n) : a < 2 ^ D := by
  have h1 := point_up i e
  rcases Nat.lt_or_ge a (2 ^ D) with z | z
  · exact z
  · have : 0 < a / 2 ^ D := Nat.div_pos z (Nat.two_pow_pos D)
    omega
theorem ins_node {k : Kd} {p : Pf} (v : Valid k p) : Ins k.D 0 (k.D - p.1) p.2 := by
  refine ⟨by omega, ?_⟩
  have e : k.D - (k.D - p.1) = p.1 := by have := v.1; omega
  rw [e]
  exact Nat.div_eq_of_lt v.2
theorem node_ins {k : Kd} {h n : Nat} (i : Ins k.D 0 h n) : Valid k (k.D - h, n) := by
  refine ⟨Nat.sub_le _ _, ?_⟩
  have h1 := i.1
  have h2 := i.2
  show n < 2 ^ (k.D - h)
  rcases Nat.lt_or_ge n (2 ^ (k.D - h)) with z | z
  · exact z
  · have : 0 < n / 2 ^ (k.D - h) := Nat.div_pos z (Nat.two_pow_pos _)
    omega
theorem cnt_agree {k : Kd} {f g : Nat → Bool} (e : ∀ a, a < 2 ^ k.D → f a = g a) {p : Pf} (v : Valid k p) : cntM k f p = cntM k g p :=
  cR_congr fun a ha => e a (point_lt (ins_node v) ha)
theorem tM_node {k : Kd} {fs : List Pf} {h n : Nat} (l : h ≤ k.D) : TM k fs h n = decide ((k.D - h, n) ∈ fs) := by
  show (decide (h ≤ k.D) && decide ((k.D - h, n) ∈ ordM fs)) = _
  rw [decide_eq_true l, Bool.true_and, Bool.eq_iff_iff, decide_eq_true_eq, decide_eq_true_eq]
  exact ordM_mem fs _
/-- the rows that have the facts -/
def rowsF (k : Kd) (f : Nat → Bool) (fs : List Pf) : List (List (List Nat)) := (rowsM (ptsK k)).filter (okF k f fs)
theorem mem_rowsF {k : Kd} {f : Nat → Bool} {fs : List Pf} {r : List (List Nat)} : r ∈ rowsF k f fs ↔ r.Sublist (ptsK k) ∧ ∀ p ∈ fs, cntM k (memF k r) p = cntM k f p := by
  unfold rowsF okF
  rw [List.mem_filter, rowsM_sub _ _ rfl, List.all_eq_true]
  constructor
  · rintro ⟨h1, h2⟩
    exact ⟨h1, fun p hp => of_decide_eq_true (h2 p hp)⟩
  · rintro ⟨h1, h2⟩
    exact ⟨h1, fun p hp => decide_eq_true (h2 p hp)⟩
section
variable {t : Tp} (hk : t.k ∈ kinds) (hc : t.c ≤ t.k.D)
/-- the numbers of the cells -/
theorem cell_ins (hc : t.c ≤ t.k.D) {n : Nat} : Ins t.k.D 0 t.h n ↔ n < 2 ^ t.c := by
  have e : t.k.D - t.h = t.c := by unfold Tp.h; omega
  constructor
  · intro i
    have := node_ins i
    rw [e] at this
    exact this.2
  · intro h
    refine ⟨by unfold Tp.h; omega, ?_⟩
    rw [e]
    exact Nat.div_eq_of_lt h
include hk hc in
theorem sees_rows {pts : List (List Nat)} (hp : pts.Sublist (ptsK t.k)) (ef : t.f = memF t.k pts) {fs : List Pf} (ok : FOk t.k fs) : SeesR t.k t.lo t.hi t.c (rowsF t.k t.f fs) ↔ Sees t.f t.nd t.h t.k.D (TM t.k fs) := by
  have eh : t.k.D - t.c = t.h := rfl
  have own : pts ∈ rowsF t.k t.f fs := mem_rowsF.mpr ⟨hp, fun p _ => by rw [ef]⟩
  have agree : ∀ {r : List (List Nat)}, (∀ p ∈ fs, cntM t.k (memF t.k r) p = cntM t.k t.f p) → ∀ h n, Ins t.k.D 0 h n → TM t.k fs h n = true → cR (memF t.k r) h n = cR t.f h n := by
    intro r hr h n i e
    rw [tM_node i.1] at e
    have := hr _ (of_decide_eq_true e)
    unfold cntM at this
    have e2 : t.k.D - (t.k.D - h) = h := by have := i.1; omega
    have e3 : t.k.D - (t.k.D - h, n).1 = h := e2
    rw [e3] at this
    exact this
  constructor
  · intro s Y hY n i hn
    obtain ⟨r, hr, er⟩ := row_of hk Y
    have hn' : 0 < roomM t.k t.lo t.hi (t.c, n) := of_decide_eq_true hn
    have ln : n < 2 ^ t.c := (cell_ins hc).mp i
    have v : Valid t.k (t.c, n) := ⟨hc, ln⟩
    have mr : r ∈ rowsF t.k t.f fs := mem_rowsF.mpr ⟨hr, fun p hp => by
      have vp := ok.2 p hp
      rw [cnt_agree er vp]
      have ip := ins_node vp
      refine hY _ _ ip ?_
      rw [tM_node ip.1]
      have e2 : t.k.D - (t.k.D - p.1) = p.1 := by have := vp.1; omega
      rw [e2]
      exact decide_eq_true hp⟩
    have h := s n ln hn' r mr pts own
    rw [cnt_agree er v, ← ef] at h
    exact h
  · intro s n hn hr r1 h1 r2 h2
    have i := (cell_ins hc).mpr hn
    have nd : t.nd n = true := decide_eq_true hr
    have a1 := s _ (agree (mem_rowsF.mp h1).2) n i nd
    have a2 := s _ (agree (mem_rowsF.mp h2).2) n i nd
    exact a1.trans a2.symm
include hk hc in
theorem enough_solve {fs : List Pf} (ok : FOk t.k fs) : EnoughM t.k t.f fs t.lo t.hi t.c ↔ Solve t.f t.W t.h .needed (TM t.k fs) t.k.D 0 := by
  have h1 := known_iff (X := t.f) (nd := t.nd) (c := t.h) (D := t.k.D) (T := TM t.k fs) (by unfold Tp.h; omega)
  refine Iff.trans ?_ h1
  constructor
  · intro e n i hn
    have ln := (cell_ins hc).mp i
    have v : Valid t.k (t.c, n) := ⟨hc, ln⟩
    exact (knownM_iff hk ok v).mp (e (t.c, n) v rfl (of_decide_eq_true hn))
  · rintro e ⟨q1, q2⟩ v eq hr
    have eq' : q1 = t.c := eq
    subst eq'
    exact (knownM_iff hk ok v).mpr (e q2 ((cell_ins hc).mpr v.2) (decide_eq_true hr))
include hk hc in
theorem sees_solve {pts : List (List Nat)} (hp : pts.Sublist (ptsK t.k)) (ef : t.f = memF t.k pts) {fs : List Pf} (ok : FOk t.k fs) : SeesR t.k t.lo t.hi t.c (rowsF t.k t.f fs) ↔ Solve t.f t.W t.h .needed (TM t.k fs) t.k.D 0 :=
  (sees_rows hk hc hp ef ok).trans (sees_iff (by unfold Tp.h; omega))
end
/-! ### the found ones told -/
def addF (fs : List Pf) (p : Pf) : List Pf := if p ∈ fs then fs else fs ++ [p]
def toldF (fs ps : List Pf) : List Pf := ps.foldl addF fs
theorem mem_addF {fs : List Pf} {p q : Pf} : q ∈ addF fs p ↔ q ∈ fs ∨ q = p := by
  unfold addF
  by_cases m : p ∈ fs
  · rw [if_pos m]
    exact ⟨.inl, fun h => h.elim id fun e => by rw [e]; exact m⟩
  · rw [if_neg m, List.mem_append, List.mem_singleton]
theorem mem_toldF : ∀ {ps fs : List Pf} {q : Pf}, q ∈ toldF fs ps ↔ q ∈ fs ∨ q ∈ ps
  | [], fs, q => by simp [toldF]
  | p :: ps, fs, q => by
    show q ∈ toldF (addF fs p) ps ↔ _
    rw [mem_toldF, mem_addF, List.mem_cons]
    constructor
    · rintro ((h | h) | h)
      · exact .inl h
      · exact .inr (.inl h)
      · exact .inr (.inr h)
    · rintro (h | h | h)
      · exact .inl (.inl h)
      · exact .inl (.inr h)
      · exact .inr h
theorem addF_nodup {fs : List Pf} (h : fs.Nodup) (p : Pf) : (addF fs p).Nodup := by
  unfold addF
  by_cases m : p ∈ fs
  · rw [if_pos m]; exact h
  · rw [if_neg m, List.nodup_append]
    refine ⟨h, by simp, fun a ha b hb e => m ?_⟩
    rw [← List.mem_singleton.mp hb, ← e]
    exact ha
theorem toldF_nodup : ∀ {ps fs : List Pf}, fs.Nodup → (toldF fs ps).Nodup
  | [], _, h => h
  | p :: ps, fs, h => toldF_nodup (ps := ps) (addF_nodup h p)
section
variable {t : Tp} {ps rows : List Pf}
theorem rows_valid (w : Wit t.f t.W t.h t.k.D t.F .needed t.k.D 0 rows) : ∀ p ∈ rows, Valid t.k p ∧ p ∉ t.fs := by
  intro p hp
  obtain ⟨h1, h2, h3⟩ := w.ins p hp
  have v := node_ins h2
  have e : t.k.D - (t.k.D - p.1) = p.1 := by omega
  rw [e] at v
  refine ⟨v, fun m => ?_⟩
  have h3' : TM t.k t.fs (t.k.D - p.1) p.2 = false := h3
  rw [tM_node (Nat.sub_le _ _), e] at h3'
  exact of_decide_eq_false h3' m
theorem told_ok (ok : FOk t.k t.fs) (w : Wit t.f t.W t.h t.k.D t.F .needed t.k.D 0 rows) (pe : ps.Perm rows) : FOk t.k (toldF t.fs ps) := by
  refine ⟨toldF_nodup ok.1, fun p hp => ?_⟩
  rcases mem_toldF.mp hp with h | h
  · exact ok.2 p h
  · exact (rows_valid w p (pe.subset h)).1
theorem told_solve (w : Wit t.f t.W t.h t.k.D t.F .needed t.k.D 0 rows) (pe : ps.Perm rows) : Solve t.f t.W t.h .needed (TM t.k (toldF t.fs ps)) t.k.D 0 := by
  refine (solve_congr t.f t.W t.h fun h n i => ?_).mp w.ok
  rw [tM_node i.1]
  show (TM t.k t.fs h n || decide ((t.k.D - h, n) ∈ rows)) = _
  rw [tM_node i.1, Bool.eq_iff_iff, Bool.or_eq_true, decide_eq_true_eq, decide_eq_true_eq, decide_eq_true_eq, mem_toldF]
  exact or_congr Iff.rfl pe.symm.mem_iff
theorem fewer_not (w : Wit t.f t.W t.h t.k.D t.F .needed t.k.D 0 rows) (lb : ∀ T, Sub t.F T → Solve t.f t.W t.h .needed T t.k.D 0 → rows.length ≤ cost t.F T t.k.D 0) (pe : ps.Perm rows) {p : Pf} (hp : p ∈ ps) :
    ¬ Solve t.f t.W t.h .needed (TM t.k ((toldF t.fs ps).filter fun q => decide (q ≠ p))) t.k.D 0 := by
  have hr := pe.subset hp
  obtain ⟨vp, np⟩ := rows_valid w p hr
  intro g
  refine none_less lb hr ((solve_congr t.f t.W t.h fun h n i => ?_).mp g)
  rw [tM_node i.1]
  show _ = (TM t.k t.fs h n || decide ((t.k.D - h, n) ∈ rows.filter fun y => decide (y ≠ p)))
  rw [tM_node i.1, Bool.eq_iff_iff, Bool.or_eq_true, decide_eq_true_eq, decide_eq_true_eq, decide_eq_true_eq, List.mem_filter, List.mem_filter, decide_eq_true_eq, mem_toldF]
  constructor
  · rintro ⟨h | h, ne⟩
    · exact .inl h
    · exact .inr ⟨pe.subset h, ne⟩
  · rintro (h | ⟨h, ne⟩)
    · exact ⟨.inl h, fun e => np (by rw [← e]; exact h)⟩
    · exact ⟨.inr (pe.symm.subset h), ne⟩
end
end Fc

set_option Elab.async false
set_option autoImplicit false
set_option linter.all false
set_option maxRecDepth 100000
set_option maxHeartbeats 0
/-! Walks: the law. -/
namespace Fc
open PySem PySem.Spec PyProof.Rows L2
/-! ### rows as data -/
def rowD (ns : List Nat) : PyData := .tuple (ns.map fun x : Nat => PyData.int (x : Int))
theorem rowD_dp {K : PySem.W.Frag} {H : Hp} {a : Addr} {ns : List Nat} (h : TupN H a ns) : Dp K H (.ref a) (rowD ns) := by
  refine .tup h.sq ?_
  have := dpAll_ints (K := K) (H := H) (ns.map fun x : Nat => (x : Int))
  rw [List.map_map, List.map_map] at this
  exact this
theorem rowD_lay (ns : List Nat) : PyData.canLay0 (rowD ns) = true := by
  have h := PySem.W.canLayAll0_ints (ns.map fun x : Nat => (x : Int))
  rw [List.map_map] at h
  unfold rowD
  simp only [PyData.canLay0]
  exact h
theorem rowD_depth (ns : List Nat) : PyData.depth (rowD ns) ≤ 5 := by
  have h := PySem.W.depthAll_ints (ns.map fun x : Nat => (x : Int))
  rw [List.map_map] at h
  unfold rowD
  simp only [PyData.depth]
  have h' : PyData.depthAll (ns.map fun x : Nat => PyData.int (x : Int)) ≤ 1 := h
  omega
theorem rowD_shaped (ns : List Nat) : SeqAt.shaped (rowD ns) = true := by
  have := rowD_depth ns
  show (PyData.canLay0 (rowD ns) && decide (PyData.depth (rowD ns) ≤ 64)) = true
  rw [rowD_lay, decide_eq_true (by omega)]
  rfl
theorem rowsD_lay : ∀ xs : List (List Nat), PyData.canLayAll0 (xs.map rowD) = true
  | [] => by simp [PyData.canLayAll0]
  | x :: xs => by
    have h := rowsD_lay xs
    simp only [List.map_cons, PyData.canLayAll0, h, rowD_lay, Bool.and_true]
theorem rowsD_depth : ∀ xs : List (List Nat), PyData.depthAll (xs.map rowD) ≤ 10
  | [] => by simp [PyData.depthAll]
  | x :: xs => by
    have h := rowsD_depth xs
    have h2 := rowD_depth x
    simp only [List.map_cons, PyData.depthAll]
    omega
theorem rowsD_shaped (xs : List (List Nat)) : SeqAt.shaped (.list (xs.map rowD)) = true := by
  have h := rowsD_depth xs
  show (PyData.canLay0 (.list (xs.map rowD)) && decide (PyData.depth (.list (xs.map rowD)) ≤ 64)) = true
  rw [Bool.and_eq_true]
  refine ⟨by simp only [PyData.canLay0]; exact rowsD_lay xs, decide_eq_true ?_⟩
  simp only [PyData.depth]
  omega
theorem dpAll_rows {K : PySem.W.Frag} {H : Hp} : ∀ {as : List Addr} {xs : List (List Nat)}, Paired (TupN H) as xs → DpAll K H (as.map V.ref) (xs.map rowD)
  | _, _, .nil => .nil
  | _, _, .cons h t => .cons (rowD_dp h) (dpAll_rows t)
theorem drop_factD (k : Kd) (f : Nat → Bool) (p : Pf) : ∀ fs : List Pf, dropK (factD k f fs) (kN p) = factD k f (fs.filter fun q => decide (q ≠ p))
  | [] => rfl
  | r :: fs => by
    by_cases e : r = p
    · have e1 : dropK (factD k f (r :: fs)) (kN p) = dropK (factD k f fs) (kN p) := dropK_pos (by rw [e])
      rw [e1, drop_factD k f p fs, List.filter_cons_of_neg (by simp [e])]
    · have e1 : dropK (factD k f (r :: fs)) (kN p) = (kN r, nV (cntM k f r)) :: dropK (factD k f fs) (kN p) := dropK_neg fun z => e (kN_inj z)
      rw [e1, drop_factD k f p fs, List.filter_cons_of_pos (by simp [e])]
      rfl
theorem put_factD (k : Kd) (f : Nat → Bool) (fs : List Pf) (p : Pf) : putK (factD k f fs) (kN p) (nV (cntM k f p)) = factD k f (addF fs p) := by
  unfold addF
  by_cases m : p ∈ fs
  · rw [if_pos m]
    have ha : ((factD k f fs).any fun kv => decide (kv.1 = kN p)) = true := by rw [valV_any, valV_fact, if_pos m]; rfl
    unfold putK
    rw [if_pos ha]
    unfold factD
    rw [List.map_map]
    refine List.map_congr_left fun q _ => ?_
    show (if kN q = kN p then (kN q, nV (cntM k f p)) else (kN q, nV (cntM k f q))) = (kN q, nV (cntM k f q))
    by_cases e : q = p
    · rw [if_pos (by rw [e]), e]
    · rw [if_neg fun z => e (kN_inj z)]
  · rw [if_neg m, putK_new _ (by rw [valV_fact, if_neg m]), factD_app]
theorem rowsF_len {k : Kd} (hk : k ∈ kinds) (f : Nat → Bool) (fs : List Pf) : (rowsF k f fs).length ≤ 256 := by
  have h1 := List.length_filter_le (okF k f fs) (rowsM (ptsK k))
  have h2 := rowsM_len (ptsK k) (ptsK k).length
  rw [List.take_length] at h2
  have plen : (ptsK k).length ≤ 8 := by
    have := (woven_facts hk).2.2
    have p8 := (pow_le8 hk 0).2
    rw [Nat.sub_zero] at p8
    omega
  have pw : 2 ^ (ptsK k).length ≤ 2 ^ 8 := Nat.pow_le_pow_right (by decide) plen
  unfold rowsF
  omega
theorem bool_eq {r1 r2 : Bool} {S : Prop} (h1 : r1 = true ↔ S) (h2 : r2 = true ↔ S) : r1 = r2 := by
  rw [Bool.eq_iff_iff]
  exact h1.trans h2.symm
section
variable {P : Program} {w : World} {K : PySem.W.Frag} {mg : Str → Option Value} {base : Heap}
def spLaw (K : PySem.W.Frag) : Sp := fun vs H Q _ => ∃ (a : Addr) (ns : List Int), vs = [.ref a] ∧ SqL K H a (ns.map V.int) ∧ ∀ H', Q (.bl true) H'
abbrev N_law : List Str := ["_law_script", "_law_draw", "_law_space", "_law_cloud", "_law_knowledge", "_law_box_here", "_law_fineness", "_law_cells", "_law_found", "_law_told", "_law_prefix", "_law_rows", "_law_fewer", "_law_number_here", "_law_cell", "_law_row"]
theorem sc_law : FnScope N_law ["_law_script"] d_law.scope := ⟨rfl, rfl, rfl, by decide +kernel, rfl, by decide +kernel, by decide +kernel⟩
theorem body_law (T : Tx K mg) (cdv : Value) (A : Around) (outer : List Env) (s : Shared) (H : Hp) (vs : List V) (Q : VK) (E : XK) (hr : Room 50 (A.deeper (envOfC d_law.qual d_law.scope s.heap.objs.size (He.fAd K d_law.at_) cdv))) (h : spLaw K vs H Q E) :
    ∃ t, PSs (cxOf CX0 P w K mg base N_law d_law.qual d_law.scope (He.fAd K d_law.at_) cdv A outer s H E).nox d_law.body t ∧ t { nx := fun _ H' => Q .non H', rt := Q } (start N_law vs) H := by
  · obtain ⟨sc, ns, rfl, hsc, q⟩ := h
    have hu := hu_of hr
    have hu65 : (A.deeper (envOfC d_law.qual d_law.scope s.heap.objs.size (He.fAd K d_law.at_) cdv)).units + 65 < cLine := by have := hr.un; omega
    refine ⟨_, pss_cons (ps_set (i := 1) sc_law.nd rfl (Or.inl rfl) (pe_lst (pa_cons (pv 0) (pa_cons pe_int pa_nil)))) (pss_cons (ps_set (i := 2) sc_law.nd rfl (Or.inr rfl) (pe_fc (ok_law_tiny T) hr (by first | decide | omega) rfl T.g_law_tiny (pa_cons (pv 1) pa_nil))) (pss_cons (ps_set (i := 3) sc_law.nd rfl (Or.inl rfl) (pe_mk (ok_Cloud_init T) hr (by first | decide | omega) rfl T.g_Cloud T.m_Cloud (pa_cons (pv 2) (pa_cons (pe_fc (ok_law_points T) hr (by first | decide | omega) rfl T.g_law_points (pa_cons (pv 1) (pa_cons (pv 2) pa_nil))) pa_nil)))) (pss_cons (ps_asg (pe_tup (pa_cons (pe_fc (ok_law_facts T) hr (by first | decide | omega) rfl T.g_law_facts (pa_cons (pv 1) (pa_cons (pv 3) pa_nil))) (pa_cons (pe_fc (ok_law_box T) hr (by first | decide | omega) rfl T.g_law_box (pa_cons (pv 1) (pa_cons (pv 2) pa_nil))) (pa_cons (pe_fc (ok_law_take T) hr (by first | decide | omega) rfl T.g_law_take (pa_cons (pv 1) (pa_cons (pe_op op_add (pe_fld (pv 2) rfl) pe_int) pa_nil))) pa_nil)))) (pg_tup rfl (pgs_cons (pg_name (i := 4) sc_law.nd rfl (Or.inr rfl)) (pgs_cons (pg_name (i := 5) sc_law.nd rfl (Or.inr rfl)) (pgs_cons (pg_name (i := 6) sc_law.nd rfl (Or.inr rfl)) pgs_nil))))) (pss_cons (ps_if (pt_cmpR op_ne (pe_fc (ok_is_enough T) hr (by first | decide | omega) rfl T.g_is_enough (pa_cons (pv 4) (pa_cons (pv 5) (pa_cons (pv 6) pa_nil)))) (pe_fc (ok_law_sees T) hr (by first | decide | omega) rfl T.g_law_sees (pa_cons (pe_fc (ok_law_clouds T) hr (by first | decide | omega) rfl T.g_law_clouds (pa_cons (pv 4) pa_nil)) (pa_cons (pv 2) (pa_cons (pv 5) (pa_cons (pv 6) pa_nil))))) (nomark _)) (pss_one (ps_ret pe_bl)) (pss_nil)) (pss_cons (ps_setLc (i := 7) (own := [("_law_number_here", 13)]) rfl sc_law.nd rfl rfl (sw_true rfl rfl rfl (by decide +kernel)) (pi_range1 rfl T.f_range (pa_cons (pe_op op_fdivN (pe_mc (pv 2) (ok_Space_size T) hr (by first | decide | omega) T.c_Space T.t_Space_size (pa_cons (pe_tup (pa_cons pe_int (pa_cons pe_int pa_nil))) pa_nil)) (pe_mc (pv 2) (ok_Space_size T) hr (by first | decide | omega) T.c_Space T.t_Space_size (pa_cons (pe_tup (pa_cons (pv 6) (pa_cons pe_int pa_nil))) pa_nil))) pa_nil)) (blkOk_by (own := [("_law_number_here", 13)]) (N := ["_law_script", "_law_draw", "_law_space", "_law_cloud", "_law_knowledge", "_law_box_here", "_law_fineness", "_law_cells", "_law_found", "_law_told", "_law_prefix", "_law_rows", "_law_fewer", "_law_number_here", "_law_cell", "_law_row"]) (sc := d_law.scope) (by decide +kernel)) (fun _ _ _ _ _ => pg_name (i := 13) sc_law.nd rfl (Or.inl rfl)) (fun _ _ _ _ _ => pts_nil) (fun _ _ _ _ _ => pe_tup (pa_cons (pv 6) (pa_cons (pv 13) pa_nil)))) (pss_cons (ps_if (pt_cmpR op_ne (pe_fc (ok_is_enough T) hr (by first | decide | omega) rfl T.g_is_enough (pa_cons (pv 4) (pa_cons (pv 5) (pa_cons (pv 6) pa_nil)))) (pe_callB (cr_all rfl) rfl T.f_all (by decide +kernel) (pa_cons (pe_lc (own := [("_law_cell", 14)]) rfl sc_law.nd (pi_list (pv 7)) (blkOk_by (own := [("_law_cell", 14)]) (N := ["_law_script", "_law_draw", "_law_space", "_law_cloud", "_law_knowledge", "_law_box_here", "_law_fineness", "_law_cells", "_law_found", "_law_told", "_law_prefix", "_law_rows", "_law_fewer", "_law_number_here", "_law_cell", "_law_row"]) (sc := d_law.scope) (by decide +kernel)) (fun _ _ _ _ _ => pg_name (i := 14) sc_law.nd rfl (Or.inl rfl)) (fun _ _ _ _ _ => pts_one (pt_cmpR op_gt (pe_mcK (K0 := K) rfl (pv 5) (ok_Box_room T) hr (by first | decide | omega) T.c_Box T.t_Box_room (pa_cons (pv 14) pa_nil)) pe_int (nomark _))) (fun _ _ _ _ _ => pe_cmpR op_notN (pe_mcK (K0 := K) rfl (pv 4) (ok_Knowledge_known T) hr (by first | decide | omega) T.c_Knowledge T.t_Knowledge_known (pa_cons (pv 14) pa_nil)) pe_non (nomark _))) pa_nil)) (nomark _)) (pss_one (ps_ret pe_bl)) (pss_nil)) (pss_cons (ps_par (i := 8) (j := 9) (by rfl) sc_law.nd rfl rfl (by decide) rfl rfl (pa_cons (pe_fc (ok_fewest_facts T) hr (by first | decide | omega) rfl T.g_fewest_facts (pa_cons (pv 3) (pa_cons (pv 4) (pa_cons (pv 5) (pa_cons (pv 6) pa_nil))))) (pa_cons (pe_callTy (call_dictT hr.units) rfl T.f_dict (by decide +kernel) (pa_cons (pe_fld (pv 4) rfl) pa_nil)) pa_nil)) (by rfl)) (pss_cons (ps_if (pt_cmpR op_ne (pe_cmpR (op_eqD hr.units) (pv 8) (pe_tup pa_nil) (nomark _)) (pe_fc (ok_is_enough T) hr (by first | decide | omega) rfl T.g_is_enough (pa_cons (pv 4) (pa_cons (pv 5) (pa_cons (pv 6) pa_nil)))) (nomark _)) (pss_one (ps_ret pe_bl)) (pss_nil)) (pss_cons (ps_for PassesOwn.never rfl (pi_tup (pv 8)) (pg_name (i := 10) sc_law.nd rfl (Or.inl rfl)) (pss_one (ps_dput hu (pv 9) (pv 10) (pe_mc (pv 3) (ok_Cloud_count T) hr (by first | decide | omega) T.c_Cloud T.t_Cloud_count (pa_cons (pv 10) pa_nil)) rfl))) (pss_cons (ps_set (i := 11) sc_law.nd rfl (Or.inl rfl) (pe_fc (ok_law_clouds T) hr (by first | decide | omega) rfl T.g_law_clouds (pa_cons (pe_mk (ok_Knowledge_init T) hr (by first | decide | omega) rfl T.g_Knowledge T.m_Knowledge (pa_cons (pv 2) (pa_cons (pv 9) pa_nil))) pa_nil))) (pss_cons (ps_if (PW.pt (pw_or (pt_not (pt_val (pe_fc (ok_law_sees T) hr (by first | decide | omega) rfl T.g_law_sees (pa_cons (pv 11) (pa_cons (pv 2) (pa_cons (pv 5) (pa_cons (pv 6) pa_nil))))))) (pw_or1 (pt_cmpR (op_notInD hu65) (pe_fld (pv 3) rfl) (pe_lc (own := [("_law_row", 15)]) rfl sc_law.nd (pi_list (pv 11)) (blkOk_by (own := [("_law_row", 15)]) (N := ["_law_script", "_law_draw", "_law_space", "_law_cloud", "_law_knowledge", "_law_box_here", "_law_fineness", "_law_cells", "_law_found", "_law_told", "_law_prefix", "_law_rows", "_law_fewer", "_law_number_here", "_law_cell", "_law_row"]) (sc := d_law.scope) (by decide +kernel)) (fun _ _ _ _ _ => pg_name (i := 15) sc_law.nd rfl (Or.inl rfl)) (fun _ _ _ _ _ => pts_nil) (fun _ _ _ _ _ => pe_fldK (K0 := K) rfl (pe_mkK (K0 := K) rfl (ok_Cloud_init T) hr (by first | decide | omega) rfl T.g_Cloud T.m_Cloud (pa_cons (pv 2) (pa_cons (pv 15) pa_nil))) rfl)) (by rfl))))) (pss_one (ps_ret pe_bl)) (pss_nil)) (pss_cons (ps_for PassesOwn.never rfl (pi_tup (pv 8)) (pg_name (i := 10) sc_law.nd rfl (Or.inl rfl)) (pss_cons (ps_set (i := 12) sc_law.nd rfl (Or.inl rfl) (pe_callTy (call_dictT hr.units) rfl T.f_dict (by decide +kernel) (pa_cons (pv 9) pa_nil))) (pss_cons (ps_expr (pe_bm PySem.F.plainAttrs_dict PySem.F.slot_dict_pop PySem.F.type_dict_pop (mt_popT1 hr.units) (pv 12) (pa_cons (pv 10) pa_nil))) (pss_one (ps_if (pt_val (pe_fc (ok_law_sees T) hr (by first | decide | omega) rfl T.g_law_sees (pa_cons (pe_fc (ok_law_clouds T) hr (by first | decide | omega) rfl T.g_law_clouds (pa_cons (pe_mk (ok_Knowledge_init T) hr (by first | decide | omega) rfl T.g_Knowledge T.m_Knowledge (pa_cons (pv 2) (pa_cons (pv 12) pa_nil))) pa_nil)) (pa_cons (pv 2) (pa_cons (pv 5) (pa_cons (pv 6) pa_nil)))))) (pss_one (ps_ret pe_bl)) (pss_nil)))))) (pss_one (ps_ret pe_bl)))))))))))))), ?_⟩
    -- draws
    refine ⟨_, rfl, (by show 2 ≤ sizeLine; decide), fun dr hdr => ?_⟩
    have hd1 : DrawAt K (upd H dr (.lst [.ref sc, .int 0])) dr sc := by
      have s0 := Same.new (o := .lst [.ref sc, .int 0]) hdr
      refine ⟨0, ns, ?_, upd_same, s0.seq hsc⟩
      rcases hsc with (h | ⟨o, h⟩) | h
      · exact .inl (ne_of_none h hdr)
      · exact .inl (ne_of_none h hdr)
      · exact .inr fun H' => .inr h
    refine ⟨_, rfl, dr, sc, rfl, hd1, fun H2 sp k s2 hd2 hS2 => ?_⟩
    have hk := hS2.1
    have kl := kinds_le hk
    refine ⟨_, rfl, _, rfl, _, rfl, dr, sc, sp, k, rfl, hd2, hS2, fun H3 pa pts s3 hd3 hP3 hsub => ?_⟩
    have hS3 := (hd2.t s3).space hS2
    refine fun cl dx nx ndx nex => ?_
    have sb : Same H3 (upd (upd H3 dx (.own cl)) cl (.ins (He.ga K "Cloud") dx [])) := fun b o e => by
      rw [upd_ne (ne_of_none e nx), upd_ne (ne_of_none e ndx)]
      exact e
    have rok := row_ok hk hsub
    refine ⟨cl, dx, sp, pa, k, pts, rfl, hS3.same sb, hP3.same sb, rok.1, rok.2.1, rok.2.2.1, rok.2.2.2, upd_same, fun H4 ro s4' hro hcl => ⟨rfl, ?_⟩⟩
    have s4 := s4'.made nx ndx
    have hd4 := hd3.same s4
    have hS4 := hS3.same s4
    have hC4 : CloudAt K H4 cl k (memF k pts) := ⟨dx, sp, ro, hcl, hS4, hro⟩
    obtain ⟨f, ef⟩ : ∃ f, f = memF k pts := ⟨_, rfl⟩
    rw [← ef] at hC4
    -- facts, box, fineness
    refine ⟨_, rfl, _, rfl, dr, sc, cl, k, f, rfl, hd4, hC4, fun H5 kn fs s5 hd5 hKn5 => ?_⟩
    have hS5 := (hd4.t s5).space hS4
    have hC5 := (hd4.t s5).cloud hC4
    refine ⟨_, rfl, _, rfl, dr, sc, sp, k, rfl, hd5, hS5, fun H6 bo lo hi s6 hd6 hB6 => ?_⟩
    have hS6 := (hd5.t s6).space hS5
    have hC6 := (hd5.t s6).cloud hC5
    have hKn6 := (hd5.t s6).know hKn5
    obtain ⟨dxs, hSi6⟩ := hS6.2
    refine ⟨_, rfl, _, rfl, _, _, _, _, _, rfl, hSi6, T.c_Space, T.n_Space_depth, lSpace_depth, _, _, rfl, rfl, dr, sc, k.D + 1, rfl, hd6, Nat.succ_pos _, fun H7 c s7 hd7 hc7 => ⟨(by show 3 ≤ sizeLine; decide), fun tu htu => ?_⟩⟩
    have t7 := hd6.t s7
    have s8 := Same.new (o := .tup [.ref kn, .ref bo, .int (c : Int)]) htu
    have hc : c ≤ k.D := by omega
    have hB7 : BoxL K H7 bo k lo hi := by
      obtain ⟨⟨dxb, spb, al, ah, b1, b2, b3, b4, b5⟩, b6⟩ := hB6
      exact ⟨⟨dxb, spb, al, ah, t7 _ _ trivial b1, t7.space b2, t7.tupN b3, t7.tupN b4, b5⟩, b6⟩
    have hS8 := (t7.space hS6).same s8
    have hC8 := (t7.cloud hC6).same s8
    have hK8 := (t7.know hKn6).same s8
    have hB8 := hB7.same s8
    refine ⟨tu, _, rfl, SqT.of upd_same, rfl, _, _, rfl, _, _, rfl, _, _, rfl, rfl, ?_⟩
    generalize upd H7 tu (.tup [.ref kn, .ref bo, .int (c : Int)]) = H8 at *
    clear s8 t7 hKn6 hC6 hS6 hB6 hB7 hS5 hC5 hKn5 hd7 hd6 hd5 s7 s6 s5 htu hSi6
    obtain ⟨t, et⟩ : ∃ t : Tp, t = ⟨k, f, fs, lo, hi, c⟩ := ⟨_, rfl⟩
    have hkt : t.k ∈ kinds := by rw [et]; exact hk
    have hct : t.c ≤ t.k.D := by rw [et]; exact hc
    have ok : FOk k fs := by obtain ⟨_, _, _, _, _, _, h⟩ := hK8; exact h
    have en : EnoughM k f fs lo hi c ↔ Solve t.f t.W t.h .needed (TM k fs) t.k.D 0 := by rw [et]; exact enough_solve (t := ⟨k, f, fs, lo, hi, c⟩) hk hc ok
    have se : ∀ {fs' : List Pf}, FOk k fs' → (SeesR k lo hi c (rowsF k f fs') ↔ Solve t.f t.W t.h .needed (TM k fs') t.k.D 0) := fun {fs'} ok' => by rw [et]; exact sees_solve (t := ⟨k, f, fs, lo, hi, c⟩) hk hc hsub ef ok'
    have own : ∀ fs' : List Pf, pts ∈ rowsF k f fs' := fun fs' => mem_rowsF.mpr ⟨hsub, fun p _ => by rw [ef]⟩
    have nemp : ∀ fs' : List Pf, rowsF k f fs' ≠ [] := fun fs' e => by have := own fs'; rw [e] at this; cases this
    have subs : ∀ fs' : List Pf, ∀ r ∈ rowsF k f fs', r.Sublist (ptsK k) := fun fs' r hr' => (mem_rowsF.mp hr').1
    -- enough exactly if all clouds are alike
    refine ⟨_, rfl, _, rfl, _, rfl, kn, bo, c, k, f, fs, lo, hi, rfl, hK8, hB8, hc, fun H9 r1 s9 h1 => ?_⟩
    refine ⟨_, rfl, kn, k, f, fs, rfl, hK8.same s9, fun H10 rw1 s10 hr10 => ?_⟩
    have s810 := s9.trans s10
    refine ⟨_, rfl, _, rfl, _, rfl, rw1, sp, bo, c, k, lo, hi, rowsF k f fs, rfl, hr10, nemp fs, rowsF_len hk f fs, subs fs, hS8.same s810, hB8.same s810, hc, fun H11 r2 s11 h2 => ⟨rfl, _, rfl, ?_⟩⟩
    refine iteNS (congrArg V.bl (bool_eq h1 (h2.trans ((se ok).trans en.symm)))) ?_
    have s811 := s810.trans s11
    clear s810 s11 s10 s9
    -- the cells
    obtain ⟨dxs, hSi⟩ := (hS8.same s811).2
    obtain ⟨ed, nz, bd, pw2⟩ := cells_range hk hc
    refine ⟨_, rfl, _, _, _, rfl, hSi, (by kernel_rfl), two_line, fun g1 hg1 => ?_⟩
    have z1 := Same.new (o := .tup [.int 0, .int 0]) hg1
    refine ⟨sp, g1, k, (0, 0), rfl, (hS8.same s811).same z1, upd_same, Nat.zero_le _, ?_⟩
    refine ⟨_, rfl, _, _, _, rfl, (z1 _ _ hSi), (by kernel_rfl), _, rfl, two_line, fun g2 hg2 => ?_⟩
    have z2 := z1.trans (Same.new (o := .tup [.int (c : Int), .int 0]) hg2)
    refine ⟨sp, g2, k, (c, 0), rfl, (hS8.same s811).same z2, upd_same, hc, ?_⟩
    refine ⟨_, _, rfl, rfl, nz, ((2 ^ c : Nat) : Int), congrArg (fun z => [V.int z]) ed, bd.1, bd.2, fun D hD => ?_⟩
    refine lc_range (lo := 0) (n := 2 ^ c) (fun m H4 => Same H8 H4 ∧ PfsL H4 D ((levM c).take m)) ⟨(s811.trans z2).trans (Same.new hD), ⟨[], upd_same, .nil⟩⟩ ?_ ?_
    · rintro m H12 hm ⟨s12, ⟨ds, hD4, hds⟩⟩
      have em : (0 : Int) + (m : Int) = (m : Int) := Int.zero_add _
      have ge : (levM c)[m]? = some (c, m) := by unfold levM; rw [List.getElem?_map, range_take hm]; rfl
      have fD : H8 D = none := (s811.trans z2).free hD
      refine ⟨rfl, _, rfl, _, rfl, two_line, fun g3 hg3 => ?_⟩
      have z3 := Same.new (o := .tup [.int (c : Int), .int (0 + (m : Int))]) hg3
      refine ⟨_, z3 _ _ hD4, ?_, same_on (s12.trans z3) fD, ds ++ [g3], by rw [List.map_append]; exact upd_same, ?_⟩
      · rw [List.length_map, paired_len hds, List.length_take, lev_len]
        exact small8 (by omega)
      · rw [takeGet ge]
        have hp : PfAt (upd H12 g3 (.tup [.int (c : Int), .int (0 + (m : Int))])) g3 (c, m) := by
          refine upd_same.trans ?_
          rw [em]
        exact pfs_upd (z3 _ _ hD4) (paired_snoc (pfs_same z3 hds) hp)
    rintro H12 ⟨s12, hL12⟩
    have full : (levM c).take (2 ^ c) = levM c := List.take_of_length_le (by rw [lev_len]; exact Nat.le_refl _)
    rw [full] at hL12
    -- enough exactly if all of them are known
    refine ⟨_, rfl, _, rfl, _, rfl, kn, bo, c, k, f, fs, lo, hi, rfl, hK8.same s12, hB8.same s12, hc, fun H13 r3 s13 h3 => ?_⟩
    have s813 := s12.trans s13
    obtain ⟨cs, hcs, hcp⟩ := hL12.same s13
    obtain ⟨dxb, _, _, _, hBi, _⟩ := id (hB8.same s813).1
    obtain ⟨dxk, _, _, hKi, _⟩ := id (hK8.same s813)
    refine ⟨_, rfl, D, rfl, ⟨_, SqL.of hcs⟩, fun D2 hD2 => ?_⟩
    refine lc_list (xs := cs.map V.ref) (fun j H14 => Same H13 H14 ∧ ∃ bs : List Bool, H14 D2 = some (.lst (bs.map V.bl)) ∧ bs.length ≤ j ∧ (bs.all id = true ↔ ∀ q ∈ (levM c).take j, 0 < roomM k lo hi q → KnownM k f fs q)) ⟨Same.new hD2, [], upd_same, Nat.le_refl _, ⟨fun _ q hq => (by cases hq), fun _ => rfl⟩⟩ (fun j H14 _ ⟨s14, _⟩ => SqL.of (s14 _ _ hcs)) ?_ ?_
    · rintro j y H14 hy ⟨s14, bs, hb14, lb, ib⟩
      obtain ⟨g, hg, rfl⟩ := mapGet hy
      obtain ⟨p, hp, hgp⟩ := paired_get hcp hg
      have vp : Valid k p := by
        obtain ⟨n, hn, rfl⟩ := List.mem_map.mp (show p ∈ (List.range (2 ^ c)).map fun n => (c, n) from List.mem_of_getElem? hp)
        exact ⟨hc, List.mem_range.mp hn⟩
      have jl := (List.getElem?_eq_some_iff.mp hp).1
      rw [lev_len] at jl
      refine ⟨rfl, _, rfl, _, _, _, rfl, (s14 _ _ hBi), (by kernel_rfl), _, rfl, bo, g, k, lo, hi, p, rfl, ((hB8.same s813).same s14).1, hgp.same s14, vp.1, fun H15 s15 => ⟨_, _, rfl, rfl, _, rfl, ?_⟩⟩
      have s145 := s14.trans s15
      have last : (levM c).take (j + 1) = (levM c).take j ++ [p] := takeGet hp
      by_cases hroom : 0 < roomM k lo hi p
      · rw [show decide (((roomM k lo hi p : Nat) : Int) > 0) = true from decide_eq_true (by omega)]
        refine iteT ⟨_, rfl, _, _, _, rfl, (s145 _ _ hKi), (by kernel_rfl), _, rfl, kn, g, k, f, fs, p, rfl, (hK8.same s813).same s145, hgp.same s145, vp, fun H16 v s16 hv => ⟨rfl, bs.map V.bl, ?_, ?_, ?_⟩⟩
        · exact s16 _ _ (s15 _ _ hb14)
        · rw [List.length_map]
          exact small8 (by omega)
        · refine ⟨same_on (s145.trans s16) hD2, bs ++ [!decide (v = .non)], by rw [List.map_append]; exact upd_same, by rw [List.length_append]; exact Nat.succ_le_succ lb, ?_⟩
          rw [List.all_append, Bool.and_eq_true, ib, last]
          have e1 : ([!decide (v = .non)].all id = true) ↔ KnownM k f fs p := by
            have : ([!decide (v = .non)].all id) = !decide (v = .non) := by simp
            rw [this, Bool.not_eq_true', decide_eq_false_iff_not]
            exact ⟨fun z => Classical.byContradiction fun y => z (hv.mpr y), fun z y => hv.mp y z⟩
          rw [e1]
          constructor
          · rintro ⟨a1, a2⟩ z hz hr'
            rcases List.mem_append.mp hz with y | y
            · exact a1 z y hr'
            · rw [List.mem_singleton.mp y]; exact a2
          · intro a1
            exact ⟨fun z hz => a1 z (List.mem_append_left _ hz), a1 p (List.mem_append_right _ (List.mem_singleton.mpr rfl)) hroom⟩
      · rw [show decide (((roomM k lo hi p : Nat) : Int) > 0) = false from decide_eq_false (by omega)]
        refine iteF ⟨s145, bs, s15 _ _ hb14, Nat.le_succ_of_le lb, ?_⟩
        rw [ib, last]
        constructor
        · intro a1 z hz hr'
          rcases List.mem_append.mp hz with y | y
          · exact a1 z y hr'
          · rw [List.mem_singleton.mp y] at hr'
            exact absurd hr' hroom
        · exact fun a1 z hz => a1 z (List.mem_append_left _ hz)
    rintro H14 ⟨s14, bs, hb14, lb, ib⟩
    rw [List.length_map, paired_len hcp, List.take_length] at ib
    have ib2 : bs.all id = true ↔ EnoughM k f fs lo hi c := by
      rw [ib]
      constructor
      · intro a1 z vz ez hr'
        refine a1 z (List.mem_map.mpr ⟨z.2, List.mem_range.mpr (by have := vz.2; rw [ez] at this; exact this), ?_⟩) hr'
        exact Prod.ext ez.symm rfl
      · intro a1 z hz hr'
        obtain ⟨n, hn, rfl⟩ := List.mem_map.mp hz
        exact a1 _ ⟨hc, List.mem_range.mp hn⟩ rfl hr'
    refine ⟨D2, bs, rfl, SqL.of hb14, rfl, _, rfl, ?_⟩
    refine iteNS (congrArg V.bl (bool_eq h3 ib2)) ?_
    have s814 := s813.trans s14
    clear s14 s813 s13 s12 s811
    -- the fewest facts
    have hC14 := hC8.same s814
    have hK14 := hK8.same s814
    have hB14 := hB8.same s814
    refine ⟨_, rfl, _, rfl, _, rfl, _, rfl, cl, kn, bo, t, ?_, ?_, ?_, ?_, hct, fun H15 fo ps rows s15 hps pe sW => ?_⟩
    · rw [et]
      rfl
    · rw [et]
      exact hC14
    · rw [et]
      exact hK14
    · rw [et]
      exact hB14
    have etk : t.k = k := by rw [et]
    have etf : t.f = f := by rw [et]
    have etfs : t.fs = fs := by rw [et]
    obtain ⟨rows', er, wit, lbd⟩ := sW
    obtain rfl : rows = rows' := (Prod.mk.inj (Option.some.inj er)).2
    have hS15 := s15.space (hS8.same s814)
    have hC15 := s15.cloud hC14
    have hK15 := s15.know hK14
    have hB15 := s15.box hB14
    obtain ⟨dxk2, spk2, fa, hKi15, _, hF15, _⟩ := id hK15
    refine ⟨_, rfl, _, _, _, _, _, rfl, hKi15, T.c_Knowledge, T.n_Knowledge_facts, lKnowledge_facts, fa, _, fs.map pI, rfl, .inl hF15, factD_keys k f fs, hash_nodup hk ok, fun td htd => ⟨_, _, rfl, ?_⟩⟩
    obtain ⟨fos, hfo, hfp⟩ := hps
    have s16 := Same.new (o := .dT (factD k f fs)) htd
    -- nothing is found exactly if they are enough
    refine ⟨_, rfl, Nat.zero_le _, fun e he => ?_⟩
    have s17 := s16.trans (Same.new (o := .tup []) he)
    refine ⟨.tuple (ps.map pfD), .tuple [], .tup (SqT.of (s17 _ _ hfo)) (dpAll_pfs (pfs_same s17 hfp)), .tup (SqT.of upd_same) .nil, shaped_tup ps, shaped_tup [], ?_⟩
    refine ⟨_, rfl, _, rfl, _, rfl, kn, bo, c, k, f, fs, lo, hi, rfl, hK15.same s17, hB15.same s17, hc, fun H18 r4 s18 h4 => ⟨rfl, _, rfl, ?_⟩⟩
    have e5 : PyData.eqv (.tuple (ps.map pfD)) (.tuple []) = r4 := by
      have e6 : PyData.eqv (.tuple (ps.map pfD)) (.tuple []) = ps.isEmpty := by cases ps <;> rfl
      rw [e6]
      refine bool_eq (S := Solve t.f t.W t.h .needed (TM k fs) t.k.D 0) ?_ (h4.trans en)
      rw [List.isEmpty_iff]
      have hn := none_iff wit lbd
      have eF : t.F = TM k fs := by unfold Tp.F; rw [etk, etfs]
      rw [eF] at hn
      refine Iff.trans ⟨fun z => ?_, fun z => ?_⟩ hn
      · subst z
        exact (List.nil_perm.mp pe)
      · subst z
        exact (List.perm_nil.mp pe)
    refine iteNS (congrArg V.bl e5) ?_
    have s15h : Same H15 H18 := s17.trans s18
    have htd18 : H18 td = some (.dT (factD k f fs)) := s18 _ _ (Same.new he _ _ upd_same)
    have oks : ∀ j, FOk k (toldF fs (ps.take j)) := fun j => by
      refine ⟨toldF_nodup ok.1, fun p hp => ?_⟩
      rcases mem_toldF.mp hp with h | h
      · exact ok.2 p h
      · have := (rows_valid wit p (pe.subset ((List.take_sublist j ps).subset h))).1
        rw [etk] at this
        exact this
    -- they are told
    refine ⟨_, rfl, fo, rfl, ⟨_, SqT.of (s15h _ _ hfo)⟩, ?_⟩
    refine for_tup (xs := fos.map V.ref) (fun j σ H19 => Same H15 H19 ∧ H19 td = some (.dT (factD k f (toldF fs (ps.take j)))) ∧ ∃ u, σ = [some (.ref sc), some (.ref dr), some (.ref sp), some (.ref cl), some (.ref kn), some (.ref bo), some (.int (c : Int)), some (.ref D), some (.ref fo), some (.ref td), u, none, none, none, none, none])
      ⟨s15h, htd18, none, rfl⟩ (fun j σ H19 _ ⟨s19, _⟩ => SqT.of (s19 _ _ hfo)) ?_ ?_
    · rintro j x σ H19 hx ⟨s19, ht19, u, rfl⟩
      obtain ⟨g, hg, rfl⟩ := mapGet hx
      obtain ⟨p, hp, hgp⟩ := paired_get hfp hg
      have vp : Valid k p := by
        have := (rows_valid wit p (pe.subset (List.mem_of_getElem? hp))).1
        rw [etk] at this
        exact this
      have hC19 := hC15.same s19
      obtain ⟨dxc, spc, roc, hCi, _⟩ := id hC19
      have hg19 := hgp.same s19
      have len := (oks j).len hk
      refine ⟨_, rfl, _, _, _, rfl, hCi, (by kernel_rfl), _, rfl, cl, g, k, f, p, rfl, hC19, hg19, vp, _, rfl, _, rfl, td, _, rfl, DPut.t ht19 hg19.key (small8 (by unfold factD; rw [List.length_map]; omega)), ?_⟩
      refine ⟨same_on s19 htd, upd_same.trans (congrArg (fun l => some (HO.dT l)) ?_), some (.ref g), rfl⟩
      rw [takeGet hp]
      unfold toldF
      rw [List.foldl_append]
      exact put_factD k f _ p
    rintro σ H19 ⟨s19, ht19, u, rfl⟩
    rw [List.length_map, paired_len hfp, List.take_length] at ht19
    have okT : FOk k (toldF fs ps) := by
      have := oks ps.length
      rw [List.take_length] at this
      exact this
    have tS : Solve t.f t.W t.h .needed (TM k (toldF fs ps)) t.k.D 0 := by
      have := told_solve wit pe
      rw [etk, etfs] at this
      rw [etk]
      exact this
    have hS19 := hS15.same s19
    -- all clouds with them
    refine ⟨_, rfl, _, rfl, fun kx dk nkx ndk nek => ?_⟩
    have sk : Same H19 (upd (upd H19 dk (.own kx)) kx (.ins (He.ga K "Knowledge") dk [])) := fun b o e => by
      rw [upd_ne (ne_of_none e nkx), upd_ne (ne_of_none e ndk)]
      exact e
    refine ⟨kx, dk, sp, td, k, f, toldF fs ps, rfl, hS19.same sk, sk _ _ ht19, okT, upd_same, fun H20 td2 s20' htd2 hkx => ⟨rfl, ?_⟩⟩
    have s20 := s20'.made nkx ndk
    have hS20 := hS19.same s20
    refine ⟨kx, k, f, toldF fs ps, rfl, ⟨dk, sp, td2, hkx, hS20, htd2, okT⟩, fun H21 rw2 s21 hr21 => ?_⟩
    have s1921 := s20.trans s21
    have s1521 := s19.trans s1921
    refine ⟨_, rfl, _, rfl, _, rfl, _, rfl, rw2, sp, bo, c, k, lo, hi, rowsF k f (toldF fs ps), rfl, hr21, nemp _, rowsF_len hk f _, subs _, hS15.same s1521, hB15.same s1521, hc, fun H22 r5 s22 h5 => ?_⟩
    have e7 : r5 = true := h5.mpr ((se okT).mpr tS)
    subst e7
    refine ⟨_, rfl, iteF ?_⟩
    have s1522 := s1521.trans s22
    obtain ⟨dxc, spc, roc, hCi, _, hro22⟩ := id (hC15.same s1522)
    obtain ⟨ras, hra, hrp⟩ : RowsL H22 rw2 (rowsF k f (toldF fs ps)) := RowsL.same s22 hr21
    refine ⟨_, rfl, _, _, _, _, _, rfl, hCi, T.c_Cloud, T.n_Cloud_row, lCloud_row, _, rfl, rw2, rfl, ⟨_, SqL.of hra⟩, fun D3 hD3 => ?_⟩
    refine lc_list (xs := ras.map V.ref) (fun j H23 => Same H22 H23 ∧ ∃ ds, H23 D3 = some (.lst (ds.map V.ref)) ∧ Paired (TupN H23) ds (((rowsF k f (toldF fs ps)).take j).map fun r => rowOf k (memF k r))) ⟨Same.new hD3, [], upd_same, .nil⟩ (fun j H23 _ ⟨s23, _⟩ => SqL.of (s23 _ _ hra)) ?_ ?_
    · rintro j y H23 hy ⟨s23, ds, hD23, hds⟩
      obtain ⟨ra, hra1, rfl⟩ := mapGet hy
      obtain ⟨row, hrow, hrr⟩ := paired_get hrp hra1
      have rok2 := row_ok hk (subs _ row (List.mem_of_getElem? hrow))
      have s1523 := s1522.trans s23
      have jl := (List.getElem?_eq_some_iff.mp hrow).1
      have l256 := rowsF_len hk f (toldF fs ps)
      refine ⟨rfl, _, rfl, _, rfl, fun x dx2 nx2 ndx2 nex2 => ?_⟩
      have sb2 : Same H23 (upd (upd H23 dx2 (.own x)) x (.ins (He.ga K "Cloud") dx2 [])) := fun b o e => by
        rw [upd_ne (ne_of_none e nx2), upd_ne (ne_of_none e ndx2)]
        exact e
      refine ⟨x, dx2, sp, ra, k, row, rfl, (hS15.same s1523).same sb2, (hrr.same s23).same sb2, rok2.1, rok2.2.1, rok2.2.2.1, rok2.2.2.2, upd_same, fun H24 ro2 s24' hro2 hx2 => ⟨rfl, ?_⟩⟩
      have s24 := s24'.made nx2 ndx2
      have hD24 := s24 _ _ hD23
      refine ⟨_, _, _, _, _, rfl, hx2, T.c_Cloud, T.n_Cloud_row, lCloud_row, _, hD24, ?_, same_on (s23.trans s24) hD3, ds ++ [ro2], by rw [List.map_append]; exact upd_same, ?_⟩
      · rw [List.length_map, paired_len hds, List.length_map, List.length_take]
        have : (1000 : Nat) < sizeLine := by decide
        omega
      · rw [takeGet hrow, List.map_append]
        exact paired_snoc (paired_imp (fun _ _ h => tup_on hD24 h) (paired_same s24 hds)) (tup_on hD24 hro2)
    rintro H23 ⟨s23, ds, hD23, hds⟩
    rw [List.length_map, paired_len hrp, List.take_length] at hds
    refine ⟨rowD (rowOf k f), ((rowsF k f (toldF fs ps)).map fun r => rowOf k (memF k r)).map rowD, rowD_dp (hro22.same s23), .lst (SqL.of hD23) (dpAll_rows hds), rowD_shaped _, rowsD_shaped _, _, rfl, ?_⟩
    have e8 : ((((rowsF k f (toldF fs ps)).map fun r => rowOf k (memF k r)).map rowD).any fun z => PyData.eqv z (rowD (rowOf k f))) = true := by
      rw [List.any_eq_true]
      refine ⟨rowD (rowOf k f), List.mem_map.mpr ⟨rowOf k f, List.mem_map.mpr ⟨pts, own _, by rw [ef]⟩, rfl⟩, ?_⟩
      exact PySem.SeqAt.eqv_refl _ (rowD_lay _)
    rw [e8]
    refine iteF ?_
    have s1523 := s1522.trans s23
    have ht23 : H23 td = some (.dT (factD k f (toldF fs ps))) := s23 _ _ (s22 _ _ (s1921 _ _ ht19))
    have s1923 := (s1921.trans s22).trans s23
    -- none of them can be left out
    refine ⟨_, rfl, fo, rfl, ⟨_, SqT.of (s1523 _ _ hfo)⟩, ?_⟩
    refine for_tup (xs := fos.map V.ref) (fun j σ H25 => Same H23 H25 ∧ ∃ u v, σ = [some (.ref sc), some (.ref dr), some (.ref sp), some (.ref cl), some (.ref kn), some (.ref bo), some (.int (c : Int)), some (.ref D), some (.ref fo), some (.ref td), u, some (.ref rw2), v, none, none, none])
      ⟨Same.refl _, u, none, rfl⟩ (fun j σ H25 _ ⟨s25, _⟩ => SqT.of (s25 _ _ (s1523 _ _ hfo))) ?_ ?_
    · rintro j x σ H25 hx ⟨s25, u, v, rfl⟩
      obtain ⟨g, hg, rfl⟩ := mapGet hx
      obtain ⟨p, hp, hgp⟩ := paired_get hfp hg
      have mp := List.mem_of_getElem? hp
      have s1525 := s1523.trans s25
      have ht25 := s25 _ _ ht23
      refine ⟨_, rfl, td, _, (toldF fs ps).map pI, rfl, .inl ht25, factD_keys k f _, hash_nodup hk okT, fun fd hfd => ?_⟩
      have s26 := Same.new (o := .dT (factD k f (toldF fs ps))) hfd
      have hg26 := (hgp.same s1525).same s26
      have mem : p ∈ toldF fs ps := mem_toldF.mpr (.inr mp)
      refine ⟨_, rfl, .inr (.inr (.inl ⟨rfl, .inr ⟨_, upd_same⟩⟩)), _, rfl, fd, _, kN p, g, nV (cntM k f p), rfl, rfl, upd_same, hg26.key, by rw [valV_fact, if_pos mem], ?_⟩
      rw [drop_factD]
      have okL : FOk k ((toldF fs ps).filter fun q => decide (q ≠ p)) := ⟨List.Pairwise.filter _ okT.1, fun z hz => okT.2 z (List.mem_filter.mp hz).1⟩
      have s27 : Same H25 (upd (upd H25 fd (.dT (factD k f (toldF fs ps)))) fd (.dT (factD k f ((toldF fs ps).filter fun q => decide (q ≠ p))))) := same_on s26 hfd
      have hfd27 : (upd (upd H25 fd (.dT (factD k f (toldF fs ps)))) fd (.dT (factD k f ((toldF fs ps).filter fun q => decide (q ≠ p))))) fd = some (.dT (factD k f ((toldF fs ps).filter fun q => decide (q ≠ p)))) := upd_same
      generalize upd (upd H25 fd (.dT (factD k f (toldF fs ps)))) fd (.dT (factD k f ((toldF fs ps).filter fun q => decide (q ≠ p)))) = H27 at *
      have s1527 := s1525.trans s27
      have hS27 := hS15.same s1527
      refine ⟨_, rfl, _, rfl, fun kx2 dk2 nkx2 ndk2 nek2 => ?_⟩
      have sk2 : Same H27 (upd (upd H27 dk2 (.own kx2)) kx2 (.ins (He.ga K "Knowledge") dk2 [])) := fun b o e => by
        rw [upd_ne (ne_of_none e nkx2), upd_ne (ne_of_none e ndk2)]
        exact e
      refine ⟨kx2, dk2, sp, fd, k, f, (toldF fs ps).filter (fun q => decide (q ≠ p)), rfl, hS27.same sk2, sk2 _ _ hfd27, okL, upd_same, fun H28 td3 s28' htd3 hkx3 => ⟨rfl, ?_⟩⟩
      have s28 := s28'.made nkx2 ndk2
      refine ⟨kx2, k, f, _, rfl, ⟨dk2, sp, td3, hkx3, hS27.same s28, htd3, okL⟩, fun H29 rw3 s29 hr29 => ?_⟩
      have s2729 := s28.trans s29
      refine ⟨_, rfl, _, rfl, _, rfl, rw3, sp, bo, c, k, lo, hi, rowsF k f _, rfl, hr29, nemp _, rowsF_len hk f _, subs _, hS27.same s2729, (hB15.same s1527).same s2729, hc, fun H30 r6 s30 h6 => ?_⟩
      have nS : ¬ Solve t.f t.W t.h .needed (TM k ((toldF fs ps).filter fun q => decide (q ≠ p))) t.k.D 0 := by
        have := fewer_not wit lbd pe mp
        rw [etk, etfs] at this
        rw [etk]
        exact this
      have e9 : r6 = false := by
        cases z : r6 with
        | false => rfl
        | true => exact absurd ((se okL).mp (h6.mp z)) nS
      subst e9
      exact ⟨_, rfl, iteF ⟨s25.trans (s27.trans (s2729.trans s30)), some (.ref g), some (.ref fd), rfl⟩⟩
    · rintro σ H25 ⟨s25, u, v, rfl⟩
      exact q H25
end
end Fc

set_option Elab.async false
set_option linter.all false
set_option maxRecDepth 100000
set_option maxHeartbeats 0
namespace Fc
open PySem PySem.Spec PyProof.Rows L2
abbrev RowR : PySem.W.OpenRow := PySem.W.OpenLaw.row PySem.Challenge.rw_finecloud_k20_whole_enough
abbrev hk : PySem.W.Hook := He.hookD 5 faL fnL
def ob (s : PySem.W.SharedT) : He.AlD := He.obsDG 5 faL fnL (HandSHeadRun.getT s)
theorem ob_eq (s : PySem.W.SharedT) : ob s = hk.obs s.abs := He.obsDG_eq (HandSHeadRun.getT_eq s)
theorem run (w : World) : HandSHeadRun.RunEq RowR (PySem.W.view RowR.prog [40]) hk ob 20000 looseL w := by
  intro os
  kernel_rfl
end Fc

set_option Elab.async false
set_option linter.all false
set_option maxRecDepth 100000
set_option maxHeartbeats 0
/-! The end: what the head tells, the law's promise. -/
namespace Fc
open PySem PySem.Spec PyProof.Rows L2
theorem facts {P : Program} {w : World} {K : PySem.W.Frag} {h : Heap} {mg : Str → Option Value} {f : Addr} (X : K.In h) (G : h.Ns mainGlobals mg) (hfa : mg ("law" : Str) = some (.ref f)) (c : He.SaysD faL fnL K) :
    ∃ fd : FuncData, (∀ (s : Shared) (v : Value), BindsTo s fd ⟨[v], []⟩ [("_law_script", v)]) ∧ ∀ base : Heap, K.In base → base.Ns mainGlobals mg → FnOk P w K mg base CX0 51 f fd ["_law_script"] (spLaw K) := by
  have T : Tx K mg := Tx.of X G c
  obtain ⟨fd, F⟩ := T.at_law
  have e := hfa.symm.trans T.g_law
  cases e
  have b := FunD.bindsA (ps := ["_law_script"]) F fun _ _ _ _ _ _ us hl => match us, hl with | [_], _ => rfl
  refine ⟨fd, fun s v => b s [v] rfl, fun base _ _ => ?_⟩
  refine F.ok sc_law (fun vs H Q E h => ?_) (fun cdv A outer s H vs Q E hr h => ?_)
  · obtain ⟨_, _, rfl, _⟩ := h
    rfl
  · obtain ⟨t, h1, q1⟩ := body_law (P := P) (w := w) (base := base) T cdv A outer s H vs Q E hr h
    exact ⟨t, h1.nox, q1⟩
end Fc
open PySem PySem.W PySem.Calls PyProof.Rows
theorem PySem.Challenge.cw_finecloud_k20_whole_enough_holds : PySem.Challenge.rw_finecloud_k20_whole_enough.Holds := by
  w_on; o_law
  refine HandSHeadRun.head_any (r := OpenLaw.row PySem.Challenge.rw_finecloud_k20_whole_enough) (q := view (OpenLaw.row PySem.Challenge.rw_finecloud_k20_whole_enough).prog [40]) (H := Fc.hk) (ob := Fc.ob) (M := 20000) (loose := Fc.looseL) (d := HandSHeadRun.topDef (OpenLaw.row PySem.Challenge.rw_finecloud_k20_whole_enough).prog 40) (kwd := []) Fc.ob_eq
    (by kernel_rfl) (fun s => by kernel_rfl) Fc.run (by kernel_rfl) (by kernel_rfl) (by kernel_rfl) (by rfl) (by first | assumption | decide +kernel) (by decide +kernel) ⟨rfl, rfl, rfl, rfl, rfl, by decide +kernel⟩ ?hw ?hc
  case hw => w_witness2
  case hc =>
    refine L2.walk_ofE (l := PySem.Challenge.rw_finecloud_k20_whole_enough) (n := 63) (k := 51) (x := "_law_script") (CX := L2.CX0) rfl (by decide) (by kernel_rfl) ⟨rfl, by decide, by decide⟩ ?F (fun _ _ _ _ z => z)
    intro w mg fa h Y G hmg0
    obtain ⟨K, KX, c⟩ := Y
    have hmg : mg ("law" : PySem.Str) = some (.ref fa) := by
      have e : (HandSHeadRun.topDef (OpenLaw.row PySem.Challenge.rw_finecloud_k20_whole_enough).prog 40).name = ("law" : PySem.Str) := by kernel_rfl
      rw [← e]
      exact hmg0
    obtain ⟨fd, hb, hF⟩ := Fc.facts (P := (PySem.Challenge.rw_finecloud_k20_whole_enough).prog) (w := w) KX G hmg c
    exact ⟨K, fd, Fc.spLaw K, KX, hb, fun H a ns hl _ hS => ⟨a, ns, rfl, hS, fun _ => rfl⟩, hF⟩

