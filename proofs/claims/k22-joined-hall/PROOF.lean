import PyProof.Rows.All
import Wide.All
import OpenK.AllK
import Wide.FinOn
import KE.KStateDown
import HandS.ForMost
import HandS.EndBits
import HandS.Defaults
import HandS.Head0
import HandS.Head1
import HandS.Head2
import HandS.HeadEnd
import HandS.HeadHook1
import HandS.HeadHook2
import HandS.Wide
import HandS.Zip
import HandS.IsInst
import HandS.SortInts
import HandS.Evl
import HandS.More
import HandS.Conv
import HandS.Rev
import PySem.Challenge.RW_ratehall_k22_joined_hall
set_option Elab.async false
set_option linter.all false
set_option maxRecDepth 100000
set_option maxHeartbeats 0
/-! The text by places, the head's facts, the run of the top (printed by gen_head.py). -/
namespace RH
open PySem PySem.Spec PyProof.Rows L2
def top (i : Nat) : Stmt := PySem.Challenge.pw_ratehall_k22_joined_hall.main.body.getD i (.Pass ⟨0, 0, 0, 0⟩)
abbrev s_is_ready : Stmt := top 14
abbrev s_shift : Stmt := top 15
abbrev s_Floor_init : Stmt := inClass (top 16) 0
abbrev s_Floor_need_work : Stmt := inClass (top 16) 1
abbrev s_Floor_ready : Stmt := inClass (top 16) 2
abbrev s_Floor_turn : Stmt := inClass (top 16) 3
abbrev s_Floor_go : Stmt := inClass (top 16) 4
abbrev s_is_name : Stmt := top 19
abbrev s_Hall_init : Stmt := inClass (top 23) 0
abbrev s_Hall_need : Stmt := inClass (top 23) 1
abbrev s_Hall_work : Stmt := inClass (top 23) 2
abbrev s_Hall_belt : Stmt := inClass (top 23) 3
abbrev s_Hall_lay : Stmt := inClass (top 23) 4
abbrev s_Hall_fill : Stmt := inClass (top 23) 5
abbrev s_Hall_names : Stmt := inClass (top 23) 6
abbrev s_Hall_belts : Stmt := inClass (top 23) 8
abbrev s_Hall_belt_at : Stmt := inClass (top 23) 9
abbrev s_divisor : Stmt := top 25
abbrev s_multiple : Stmt := top 26
abbrev s_ratio : Stmt := top 27
abbrev s_times : Stmt := top 28
abbrev s_reached : Stmt := top 30
abbrev s_pieces_of : Stmt := top 31
abbrev s_Spread_init : Stmt := inClass (top 33) 0
abbrev s_Spread_walk_from : Stmt := inClass (top 33) 1
abbrev s_Spread_come_to : Stmt := inClass (top 33) 2
abbrev s_Spread_odd_belt : Stmt := inClass (top 33) 3
abbrev s_whole_rates : Stmt := top 34
abbrev s_rates_of : Stmt := top 35
abbrev s_members_of : Stmt := top 38
abbrev s_turns_of : Stmt := top 39
abbrev s_inner_hall : Stmt := top 40
abbrev s_inner_row : Stmt := top 41
abbrev s_Joint_init : Stmt := inClass (top 42) 0
abbrev s_Joint_made : Stmt := inClass (top 42) 1
abbrev s_Joint_place : Stmt := inClass (top 42) 2
abbrev s_Joint_inner : Stmt := inClass (top 42) 3
abbrev s_Joint_unfolded : Stmt := inClass (top 42) 4
abbrev s_l_cell_at : Stmt := top 44
abbrev s_l_names : Stmt := top 45
abbrev s_l_common : Stmt := top 46
abbrev s_l_belt_by : Stmt := top 47
abbrev s_l_least : Stmt := top 48
abbrev s_l_made : Stmt := top 49
abbrev s_l_group_by : Stmt := top 50
abbrev s_l_wholes : Stmt := top 51
abbrev s_l_joined : Stmt := top 52
abbrev s_l_hall_good : Stmt := top 53
abbrev s_law : Stmt := top 54
/-! the defs as data -/
def d_is_ready : He.DefD := ⟨("is_ready", none), "is_ready", "is_ready", defArgs s_is_ready, defBody s_is_ready, defScope s_is_ready, [], []⟩
def d_shift : He.DefD := ⟨("shift", none), "shift", "shift", defArgs s_shift, defBody s_shift, defScope s_shift, [], []⟩
def d_Floor_init : He.DefD := ⟨("Floor", some "__init__"), "__init__", "Floor.__init__", defArgs s_Floor_init, defBody s_Floor_init, defScope s_Floor_init, [], []⟩
def d_Floor_need_work : He.DefD := ⟨("Floor", some "need_work"), "need_work", "Floor.need_work", defArgs s_Floor_need_work, defBody s_Floor_need_work, defScope s_Floor_need_work, [], []⟩
def d_Floor_ready : He.DefD := ⟨("Floor", some "ready"), "ready", "Floor.ready", defArgs s_Floor_ready, defBody s_Floor_ready, defScope s_Floor_ready, [], []⟩
def d_Floor_turn : He.DefD := ⟨("Floor", some "turn"), "turn", "Floor.turn", defArgs s_Floor_turn, defBody s_Floor_turn, defScope s_Floor_turn, [], []⟩
def d_Floor_go : He.DefD := ⟨("Floor", some "go"), "go", "Floor.go", defArgs s_Floor_go, defBody s_Floor_go, defScope s_Floor_go, [], []⟩
def d_is_name : He.DefD := ⟨("is_name", none), "is_name", "is_name", defArgs s_is_name, defBody s_is_name, defScope s_is_name, [], []⟩
def d_Hall_init : He.DefD := ⟨("Hall", some "__init__"), "__init__", "Hall.__init__", defArgs s_Hall_init, defBody s_Hall_init, defScope s_Hall_init, [], []⟩
def d_Hall_need : He.DefD := ⟨("Hall", some "need"), "need", "Hall.need", defArgs s_Hall_need, defBody s_Hall_need, defScope s_Hall_need, [], []⟩
def d_Hall_work : He.DefD := ⟨("Hall", some "work"), "work", "Hall.work", defArgs s_Hall_work, defBody s_Hall_work, defScope s_Hall_work, [], []⟩
def d_Hall_belt : He.DefD := ⟨("Hall", some "belt"), "belt", "Hall.belt", defArgs s_Hall_belt, defBody s_Hall_belt, defScope s_Hall_belt, [.int 0], []⟩
def d_Hall_lay : He.DefD := ⟨("Hall", some "lay"), "lay", "Hall.lay", defArgs s_Hall_lay, defBody s_Hall_lay, defScope s_Hall_lay, [], []⟩
def d_Hall_fill : He.DefD := ⟨("Hall", some "fill"), "fill", "Hall.fill", defArgs s_Hall_fill, defBody s_Hall_fill, defScope s_Hall_fill, [], []⟩
def d_Hall_names : He.DefD := ⟨("Hall", some "names"), "names", "Hall.names", defArgs s_Hall_names, defBody s_Hall_names, defScope s_Hall_names, [], []⟩
def d_Hall_belts : He.DefD := ⟨("Hall", some "belts"), "belts", "Hall.belts", defArgs s_Hall_belts, defBody s_Hall_belts, defScope s_Hall_belts, [], []⟩
def d_Hall_belt_at : He.DefD := ⟨("Hall", some "belt_at"), "belt_at", "Hall.belt_at", defArgs s_Hall_belt_at, defBody s_Hall_belt_at, defScope s_Hall_belt_at, [], []⟩
def d_divisor : He.DefD := ⟨("divisor", none), "divisor", "divisor", defArgs s_divisor, defBody s_divisor, defScope s_divisor, [], []⟩
def d_multiple : He.DefD := ⟨("multiple", none), "multiple", "multiple", defArgs s_multiple, defBody s_multiple, defScope s_multiple, [], []⟩
def d_ratio : He.DefD := ⟨("ratio", none), "ratio", "ratio", defArgs s_ratio, defBody s_ratio, defScope s_ratio, [], []⟩
def d_times : He.DefD := ⟨("times", none), "times", "times", defArgs s_times, defBody s_times, defScope s_times, [], []⟩
def d_reached : He.DefD := ⟨("reached", none), "reached", "reached", defArgs s_reached, defBody s_reached, defScope s_reached, [], []⟩
def d_pieces_of : He.DefD := ⟨("pieces_of", none), "pieces_of", "pieces_of", defArgs s_pieces_of, defBody s_pieces_of, defScope s_pieces_of, [], []⟩
def d_Spread_init : He.DefD := ⟨("Spread", some "__init__"), "__init__", "Spread.__init__", defArgs s_Spread_init, defBody s_Spread_init, defScope s_Spread_init, [], []⟩
def d_Spread_walk_from : He.DefD := ⟨("Spread", some "walk_from"), "walk_from", "Spread.walk_from", defArgs s_Spread_walk_from, defBody s_Spread_walk_from, defScope s_Spread_walk_from, [], []⟩
def d_Spread_come_to : He.DefD := ⟨("Spread", some "come_to"), "come_to", "Spread.come_to", defArgs s_Spread_come_to, defBody s_Spread_come_to, defScope s_Spread_come_to, [], []⟩
def d_Spread_odd_belt : He.DefD := ⟨("Spread", some "odd_belt"), "odd_belt", "Spread.odd_belt", defArgs s_Spread_odd_belt, defBody s_Spread_odd_belt, defScope s_Spread_odd_belt, [], []⟩
def d_whole_rates : He.DefD := ⟨("whole_rates", none), "whole_rates", "whole_rates", defArgs s_whole_rates, defBody s_whole_rates, defScope s_whole_rates, [], []⟩
def d_rates_of : He.DefD := ⟨("rates_of", none), "rates_of", "rates_of", defArgs s_rates_of, defBody s_rates_of, defScope s_rates_of, [], []⟩
def d_members_of : He.DefD := ⟨("members_of", none), "members_of", "members_of", defArgs s_members_of, defBody s_members_of, defScope s_members_of, [], []⟩
def d_turns_of : He.DefD := ⟨("turns_of", none), "turns_of", "turns_of", defArgs s_turns_of, defBody s_turns_of, defScope s_turns_of, [], []⟩
def d_inner_hall : He.DefD := ⟨("inner_hall", none), "inner_hall", "inner_hall", defArgs s_inner_hall, defBody s_inner_hall, defScope s_inner_hall, [], []⟩
def d_inner_row : He.DefD := ⟨("inner_row", none), "inner_row", "inner_row", defArgs s_inner_row, defBody s_inner_row, defScope s_inner_row, [], []⟩
def d_Joint_init : He.DefD := ⟨("Joint", some "__init__"), "__init__", "Joint.__init__", defArgs s_Joint_init, defBody s_Joint_init, defScope s_Joint_init, [], []⟩
def d_Joint_made : He.DefD := ⟨("Joint", some "made"), "made", "Joint.made", defArgs s_Joint_made, defBody s_Joint_made, defScope s_Joint_made, [], []⟩
def d_Joint_place : He.DefD := ⟨("Joint", some "place"), "place", "Joint.place", defArgs s_Joint_place, defBody s_Joint_place, defScope s_Joint_place, [], []⟩
def d_Joint_inner : He.DefD := ⟨("Joint", some "inner"), "inner", "Joint.inner", defArgs s_Joint_inner, defBody s_Joint_inner, defScope s_Joint_inner, [], []⟩
def d_Joint_unfolded : He.DefD := ⟨("Joint", some "unfolded"), "unfolded", "Joint.unfolded", defArgs s_Joint_unfolded, defBody s_Joint_unfolded, defScope s_Joint_unfolded, [], []⟩
def d_l_cell_at : He.DefD := ⟨("_law_cell_at", none), "_law_cell_at", "_law_cell_at", defArgs s_l_cell_at, defBody s_l_cell_at, defScope s_l_cell_at, [], []⟩
def d_l_names : He.DefD := ⟨("_law_names", none), "_law_names", "_law_names", defArgs s_l_names, defBody s_l_names, defScope s_l_names, [], []⟩
def d_l_common : He.DefD := ⟨("_law_common", none), "_law_common", "_law_common", defArgs s_l_common, defBody s_l_common, defScope s_l_common, [], []⟩
def d_l_belt_by : He.DefD := ⟨("_law_belt_by", none), "_law_belt_by", "_law_belt_by", defArgs s_l_belt_by, defBody s_l_belt_by, defScope s_l_belt_by, [], []⟩
def d_l_least : He.DefD := ⟨("_law_least", none), "_law_least", "_law_least", defArgs s_l_least, defBody s_l_least, defScope s_l_least, [], []⟩
def d_l_made : He.DefD := ⟨("_law_made", none), "_law_made", "_law_made", defArgs s_l_made, defBody s_l_made, defScope s_l_made, [], []⟩
def d_l_group_by : He.DefD := ⟨("_law_group_by", none), "_law_group_by", "_law_group_by", defArgs s_l_group_by, defBody s_l_group_by, defScope s_l_group_by, [], []⟩
def d_l_wholes : He.DefD := ⟨("_law_wholes", none), "_law_wholes", "_law_wholes", defArgs s_l_wholes, defBody s_l_wholes, defScope s_l_wholes, [], []⟩
def d_l_joined : He.DefD := ⟨("_law_joined", none), "_law_joined", "_law_joined", defArgs s_l_joined, defBody s_l_joined, defScope s_l_joined, [], []⟩
def d_l_hall_good : He.DefD := ⟨("_law_hall_good", none), "_law_hall_good", "_law_hall_good", defArgs s_l_hall_good, defBody s_l_hall_good, defScope s_l_hall_good, [], []⟩
def d_law : He.DefD := ⟨("law", none), "law", "law", defArgs s_law, defBody s_law, defScope s_law, [], []⟩
def fnL : List He.DefD := [d_is_ready, d_shift, d_Floor_init, d_Floor_need_work, d_Floor_ready, d_Floor_turn, d_Floor_go, d_is_name, d_Hall_init, d_Hall_need, d_Hall_work, d_Hall_belt, d_Hall_lay, d_Hall_fill, d_Hall_names, d_Hall_belts, d_Hall_belt_at, d_divisor, d_multiple, d_ratio, d_times, d_reached, d_pieces_of, d_Spread_init, d_Spread_walk_from, d_Spread_come_to, d_Spread_odd_belt, d_whole_rates, d_rates_of, d_members_of, d_turns_of, d_inner_hall, d_inner_row, d_Joint_init, d_Joint_made, d_Joint_place, d_Joint_inner, d_Joint_unfolded, d_l_cell_at, d_l_names, d_l_common, d_l_belt_by, d_l_least, d_l_made, d_l_group_by, d_l_wholes, d_l_joined, d_l_hall_good, d_law]
def fa0 : List He.Fa := [.glo "is_ready", .glo "shift", .glo "is_name", .glo "divisor", .glo "multiple", .glo "ratio", .glo "times", .glo "reached", .glo "pieces_of", .glo "whole_rates", .glo "rates_of", .glo "members_of", .glo "turns_of", .glo "inner_hall", .glo "inner_row", .glo "_law_cell_at", .glo "_law_names", .glo "_law_common", .glo "_law_belt_by", .glo "_law_least"]
def fa1 : List He.Fa := [.glo "_law_made", .glo "_law_group_by", .glo "_law_wholes", .glo "_law_joined", .glo "_law_hall_good", .glo "law", .glo "Floor", .cls "Floor", .mkr "Floor", .noat "Floor" "lines", .noat "Floor" "many", .noat "Floor" "heap", .meth "Floor" "need_work", .meth "Floor" "ready", .meth "Floor" "turn", .meth "Floor" "go", .glo "Hall", .cls "Hall", .mkr "Hall", .noat "Hall" "called"]
def fa2 : List He.Fa := [.noat "Hall" "lines", .meth "Hall" "need", .meth "Hall" "work", .meth "Hall" "belt", .meth "Hall" "lay", .meth "Hall" "fill", .meth "Hall" "names", .meth "Hall" "belts", .meth "Hall" "belt_at", .glo "Spread", .cls "Spread", .mkr "Spread", .noat "Spread" "lines", .noat "Spread" "ratios", .noat "Spread" "ways", .meth "Spread" "walk_from", .meth "Spread" "come_to", .meth "Spread" "odd_belt", .glo "Joint", .cls "Joint"]
def fa3 : List He.Fa := [.mkr "Joint", .noat "Joint" "within", .noat "Joint" "first", .noat "Joint" "kept", .noat "Joint" "called", .noat "Joint" "tied", .meth "Joint" "made", .meth "Joint" "place", .meth "Joint" "inner", .meth "Joint" "unfolded", .free "zip", .free "len", .free "list", .free "sorted", .free "enumerate", .free "range", .free "min", .free "sum", .free "isinstance", .free "all"]
def fa4 : List He.Fa := [.free "reversed", .free "str", .free "int", .free "bool", .free "tuple", .int "MOST_WORKS" 30, .int "MOST_BELTS" 60, .int "MOST_TURNS" 400, .str "LETTERS" "abcdefghijklmnopqrstuvwxyz"]
def faL : List He.Fa := fa0 ++ fa1 ++ fa2 ++ fa3 ++ fa4
def loose1 : List Str := ["_wall", "RateError", "NoName", "Twice", "TooMuch", "NoWork", "NoBelt", "NoRate", "Empty", "NotBalanced", "TooLong", "Stuck", "is_ready", "shift", "Floor", "LETTERS", "is_name", "MOST_WORKS", "MOST_BELTS", "Hall", "divisor", "multiple"]
def loose2 : List Str := ["ratio", "times", "reached", "pieces_of", "Spread", "whole_rates", "rates_of", "MOST_TURNS", "members_of", "turns_of", "inner_hall", "inner_row", "Joint", "_law_cell_at", "_law_names", "_law_common", "_law_belt_by", "_law_least", "_law_made", "_law_group_by", "_law_wholes", "_law_joined", "_law_hall_good"]
def looseL : List Str := loose1 ++ loose2
abbrev R : PySem.W.OpenRow := PySem.W.OpenLaw.row PySem.Challenge.rw_ratehall_k22_joined_hall
abbrev hk : PySem.W.Hook := He.hookD 4 faL fnL
def ob (s : PySem.W.SharedT) : He.AlD := He.obsDG 4 faL fnL (HandSHeadRun.getT s)
theorem ob_eq (s : PySem.W.SharedT) : ob s = hk.obs s.abs := He.obsDG_eq (HandSHeadRun.getT_eq s)
theorem run (w : World) : HandSHeadRun.RunEq R (PySem.W.view R.prog [54]) hk ob 6000 looseL w := by
  intro os
  kernel_rfl
/-! the facts by names -/
structure Tx (K : PySem.W.Frag) (mg : Str → Option Value) : Prop where
  c : He.SaysD faL fnL K
  h : ∃ h : Heap, K.In h ∧ h.Ns mainGlobals mg
section
variable {K : PySem.W.Frag} {mg : Str → Option Value}
theorem Tx.g_is_ready (T : Tx K mg) : mg "is_ready" = some (.ref (He.ga K "is_ready")) := let ⟨_, X, G⟩ := T.h; He.glo_ok X G (T.c.fact 0 (f := .glo "is_ready") rfl)
theorem Tx.g_shift (T : Tx K mg) : mg "shift" = some (.ref (He.ga K "shift")) := let ⟨_, X, G⟩ := T.h; He.glo_ok X G (T.c.fact 1 (f := .glo "shift") rfl)
theorem Tx.g_is_name (T : Tx K mg) : mg "is_name" = some (.ref (He.ga K "is_name")) := let ⟨_, X, G⟩ := T.h; He.glo_ok X G (T.c.fact 2 (f := .glo "is_name") rfl)
theorem Tx.g_divisor (T : Tx K mg) : mg "divisor" = some (.ref (He.ga K "divisor")) := let ⟨_, X, G⟩ := T.h; He.glo_ok X G (T.c.fact 3 (f := .glo "divisor") rfl)
theorem Tx.g_multiple (T : Tx K mg) : mg "multiple" = some (.ref (He.ga K "multiple")) := let ⟨_, X, G⟩ := T.h; He.glo_ok X G (T.c.fact 4 (f := .glo "multiple") rfl)
theorem Tx.g_ratio (T : Tx K mg) : mg "ratio" = some (.ref (He.ga K "ratio")) := let ⟨_, X, G⟩ := T.h; He.glo_ok X G (T.c.fact 5 (f := .glo "ratio") rfl)
theorem Tx.g_times (T : Tx K mg) : mg "times" = some (.ref (He.ga K "times")) := let ⟨_, X, G⟩ := T.h; He.glo_ok X G (T.c.fact 6 (f := .glo "times") rfl)
theorem Tx.g_reached (T : Tx K mg) : mg "reached" = some (.ref (He.ga K "reached")) := let ⟨_, X, G⟩ := T.h; He.glo_ok X G (T.c.fact 7 (f := .glo "reached") rfl)
theorem Tx.g_pieces_of (T : Tx K mg) : mg "pieces_of" = some (.ref (He.ga K "pieces_of")) := let ⟨_, X, G⟩ := T.h; He.glo_ok X G (T.c.fact 8 (f := .glo "pieces_of") rfl)
theorem Tx.g_whole_rates (T : Tx K mg) : mg "whole_rates" = some (.ref (He.ga K "whole_rates")) := let ⟨_, X, G⟩ := T.h; He.glo_ok X G (T.c.fact 9 (f := .glo "whole_rates") rfl)
theorem Tx.g_rates_of (T : Tx K mg) : mg "rates_of" = some (.ref (He.ga K "rates_of")) := let ⟨_, X, G⟩ := T.h; He.glo_ok X G (T.c.fact 10 (f := .glo "rates_of") rfl)
theorem Tx.g_members_of (T : Tx K mg) : mg "members_of" = some (.ref (He.ga K "members_of")) := let ⟨_, X, G⟩ := T.h; He.glo_ok X G (T.c.fact 11 (f := .glo "members_of") rfl)
theorem Tx.g_turns_of (T : Tx K mg) : mg "turns_of" = some (.ref (He.ga K "turns_of")) := let ⟨_, X, G⟩ := T.h; He.glo_ok X G (T.c.fact 12 (f := .glo "turns_of") rfl)
theorem Tx.g_inner_hall (T : Tx K mg) : mg "inner_hall" = some (.ref (He.ga K "inner_hall")) := let ⟨_, X, G⟩ := T.h; He.glo_ok X G (T.c.fact 13 (f := .glo "inner_hall") rfl)
theorem Tx.g_inner_row (T : Tx K mg) : mg "inner_row" = some (.ref (He.ga K "inner_row")) := let ⟨_, X, G⟩ := T.h; He.glo_ok X G (T.c.fact 14 (f := .glo "inner_row") rfl)
theorem Tx.g_l_cell_at (T : Tx K mg) : mg "_law_cell_at" = some (.ref (He.ga K "_law_cell_at")) := let ⟨_, X, G⟩ := T.h; He.glo_ok X G (T.c.fact 15 (f := .glo "_law_cell_at") rfl)
theorem Tx.g_l_names (T : Tx K mg) : mg "_law_names" = some (.ref (He.ga K "_law_names")) := let ⟨_, X, G⟩ := T.h; He.glo_ok X G (T.c.fact 16 (f := .glo "_law_names") rfl)
theorem Tx.g_l_common (T : Tx K mg) : mg "_law_common" = some (.ref (He.ga K "_law_common")) := let ⟨_, X, G⟩ := T.h; He.glo_ok X G (T.c.fact 17 (f := .glo "_law_common") rfl)
theorem Tx.g_l_belt_by (T : Tx K mg) : mg "_law_belt_by" = some (.ref (He.ga K "_law_belt_by")) := let ⟨_, X, G⟩ := T.h; He.glo_ok X G (T.c.fact 18 (f := .glo "_law_belt_by") rfl)
theorem Tx.g_l_least (T : Tx K mg) : mg "_law_least" = some (.ref (He.ga K "_law_least")) := let ⟨_, X, G⟩ := T.h; He.glo_ok X G (T.c.fact 19 (f := .glo "_law_least") rfl)
theorem Tx.g_l_made (T : Tx K mg) : mg "_law_made" = some (.ref (He.ga K "_law_made")) := let ⟨_, X, G⟩ := T.h; He.glo_ok X G (T.c.fact 20 (f := .glo "_law_made") rfl)
theorem Tx.g_l_group_by (T : Tx K mg) : mg "_law_group_by" = some (.ref (He.ga K "_law_group_by")) := let ⟨_, X, G⟩ := T.h; He.glo_ok X G (T.c.fact 21 (f := .glo "_law_group_by") rfl)
theorem Tx.g_l_wholes (T : Tx K mg) : mg "_law_wholes" = some (.ref (He.ga K "_law_wholes")) := let ⟨_, X, G⟩ := T.h; He.glo_ok X G (T.c.fact 22 (f := .glo "_law_wholes") rfl)
theorem Tx.g_l_joined (T : Tx K mg) : mg "_law_joined" = some (.ref (He.ga K "_law_joined")) := let ⟨_, X, G⟩ := T.h; He.glo_ok X G (T.c.fact 23 (f := .glo "_law_joined") rfl)
theorem Tx.g_l_hall_good (T : Tx K mg) : mg "_law_hall_good" = some (.ref (He.ga K "_law_hall_good")) := let ⟨_, X, G⟩ := T.h; He.glo_ok X G (T.c.fact 24 (f := .glo "_law_hall_good") rfl)
theorem Tx.g_law (T : Tx K mg) : mg "law" = some (.ref (He.ga K "law")) := let ⟨_, X, G⟩ := T.h; He.glo_ok X G (T.c.fact 25 (f := .glo "law") rfl)
theorem Tx.g_Floor (T : Tx K mg) : mg "Floor" = some (.ref (He.ga K "Floor")) := let ⟨_, X, G⟩ := T.h; He.glo_ok X G (T.c.fact 26 (f := .glo "Floor") rfl)
theorem Tx.cl_Floor (T : Tx K mg) : Cls K (He.ga K "Floor") := He.cls_ok (T.c.fact 27 (f := .cls "Floor") rfl)
theorem Tx.mk_Floor (T : Tx K mg) : Mk K (He.ga K "Floor") (He.ma K (He.ga K "Floor") "__init__") := He.mkr_ok (T.c.fact 28 (f := .mkr "Floor") rfl)
theorem Tx.n_Floor_lines (T : Tx K mg) : NoAttr K (He.ga K "Floor") "lines" := He.noat_ok (T.c.fact 29 (f := .noat "Floor" "lines") rfl)
theorem Tx.n_Floor_many (T : Tx K mg) : NoAttr K (He.ga K "Floor") "many" := He.noat_ok (T.c.fact 30 (f := .noat "Floor" "many") rfl)
theorem Tx.n_Floor_heap (T : Tx K mg) : NoAttr K (He.ga K "Floor") "heap" := He.noat_ok (T.c.fact 31 (f := .noat "Floor" "heap") rfl)
theorem Tx.m_Floor_need_work (T : Tx K mg) : Meth K (He.ga K "Floor") "need_work" (He.ma K (He.ga K "Floor") "need_work") := He.meth_ok (T.c.fact 32 (f := .meth "Floor" "need_work") rfl)
theorem Tx.m_Floor_ready (T : Tx K mg) : Meth K (He.ga K "Floor") "ready" (He.ma K (He.ga K "Floor") "ready") := He.meth_ok (T.c.fact 33 (f := .meth "Floor" "ready") rfl)
theorem Tx.m_Floor_turn (T : Tx K mg) : Meth K (He.ga K "Floor") "turn" (He.ma K (He.ga K "Floor") "turn") := He.meth_ok (T.c.fact 34 (f := .meth "Floor" "turn") rfl)
theorem Tx.m_Floor_go (T : Tx K mg) : Meth K (He.ga K "Floor") "go" (He.ma K (He.ga K "Floor") "go") := He.meth_ok (T.c.fact 35 (f := .meth "Floor" "go") rfl)
theorem Tx.g_Hall (T : Tx K mg) : mg "Hall" = some (.ref (He.ga K "Hall")) := let ⟨_, X, G⟩ := T.h; He.glo_ok X G (T.c.fact 36 (f := .glo "Hall") rfl)
theorem Tx.cl_Hall (T : Tx K mg) : Cls K (He.ga K "Hall") := He.cls_ok (T.c.fact 37 (f := .cls "Hall") rfl)
theorem Tx.mk_Hall (T : Tx K mg) : Mk K (He.ga K "Hall") (He.ma K (He.ga K "Hall") "__init__") := He.mkr_ok (T.c.fact 38 (f := .mkr "Hall") rfl)
theorem Tx.n_Hall_called (T : Tx K mg) : NoAttr K (He.ga K "Hall") "called" := He.noat_ok (T.c.fact 39 (f := .noat "Hall" "called") rfl)
theorem Tx.n_Hall_lines (T : Tx K mg) : NoAttr K (He.ga K "Hall") "lines" := He.noat_ok (T.c.fact 40 (f := .noat "Hall" "lines") rfl)
theorem Tx.m_Hall_need (T : Tx K mg) : Meth K (He.ga K "Hall") "need" (He.ma K (He.ga K "Hall") "need") := He.meth_ok (T.c.fact 41 (f := .meth "Hall" "need") rfl)
theorem Tx.m_Hall_work (T : Tx K mg) : Meth K (He.ga K "Hall") "work" (He.ma K (He.ga K "Hall") "work") := He.meth_ok (T.c.fact 42 (f := .meth "Hall" "work") rfl)
theorem Tx.m_Hall_belt (T : Tx K mg) : Meth K (He.ga K "Hall") "belt" (He.ma K (He.ga K "Hall") "belt") := He.meth_ok (T.c.fact 43 (f := .meth "Hall" "belt") rfl)
theorem Tx.m_Hall_lay (T : Tx K mg) : Meth K (He.ga K "Hall") "lay" (He.ma K (He.ga K "Hall") "lay") := He.meth_ok (T.c.fact 44 (f := .meth "Hall" "lay") rfl)
theorem Tx.m_Hall_fill (T : Tx K mg) : Meth K (He.ga K "Hall") "fill" (He.ma K (He.ga K "Hall") "fill") := He.meth_ok (T.c.fact 45 (f := .meth "Hall" "fill") rfl)
theorem Tx.m_Hall_names (T : Tx K mg) : Meth K (He.ga K "Hall") "names" (He.ma K (He.ga K "Hall") "names") := He.meth_ok (T.c.fact 46 (f := .meth "Hall" "names") rfl)
theorem Tx.m_Hall_belts (T : Tx K mg) : Meth K (He.ga K "Hall") "belts" (He.ma K (He.ga K "Hall") "belts") := He.meth_ok (T.c.fact 47 (f := .meth "Hall" "belts") rfl)
theorem Tx.m_Hall_belt_at (T : Tx K mg) : Meth K (He.ga K "Hall") "belt_at" (He.ma K (He.ga K "Hall") "belt_at") := He.meth_ok (T.c.fact 48 (f := .meth "Hall" "belt_at") rfl)
theorem Tx.g_Spread (T : Tx K mg) : mg "Spread" = some (.ref (He.ga K "Spread")) := let ⟨_, X, G⟩ := T.h; He.glo_ok X G (T.c.fact 49 (f := .glo "Spread") rfl)
theorem Tx.cl_Spread (T : Tx K mg) : Cls K (He.ga K "Spread") := He.cls_ok (T.c.fact 50 (f := .cls "Spread") rfl)
theorem Tx.mk_Spread (T : Tx K mg) : Mk K (He.ga K "Spread") (He.ma K (He.ga K "Spread") "__init__") := He.mkr_ok (T.c.fact 51 (f := .mkr "Spread") rfl)
theorem Tx.n_Spread_lines (T : Tx K mg) : NoAttr K (He.ga K "Spread") "lines" := He.noat_ok (T.c.fact 52 (f := .noat "Spread" "lines") rfl)
theorem Tx.n_Spread_ratios (T : Tx K mg) : NoAttr K (He.ga K "Spread") "ratios" := He.noat_ok (T.c.fact 53 (f := .noat "Spread" "ratios") rfl)
theorem Tx.n_Spread_ways (T : Tx K mg) : NoAttr K (He.ga K "Spread") "ways" := He.noat_ok (T.c.fact 54 (f := .noat "Spread" "ways") rfl)
theorem Tx.m_Spread_walk_from (T : Tx K mg) : Meth K (He.ga K "Spread") "walk_from" (He.ma K (He.ga K "Spread") "walk_from") := He.meth_ok (T.c.fact 55 (f := .meth "Spread" "walk_from") rfl)
theorem Tx.m_Spread_come_to (T : Tx K mg) : Meth K (He.ga K "Spread") "come_to" (He.ma K (He.ga K "Spread") "come_to") := He.meth_ok (T.c.fact 56 (f := .meth "Spread" "come_to") rfl)
theorem Tx.m_Spread_odd_belt (T : Tx K mg) : Meth K (He.ga K "Spread") "odd_belt" (He.ma K (He.ga K "Spread") "odd_belt") := He.meth_ok (T.c.fact 57 (f := .meth "Spread" "odd_belt") rfl)
theorem Tx.g_Joint (T : Tx K mg) : mg "Joint" = some (.ref (He.ga K "Joint")) := let ⟨_, X, G⟩ := T.h; He.glo_ok X G (T.c.fact 58 (f := .glo "Joint") rfl)
theorem Tx.cl_Joint (T : Tx K mg) : Cls K (He.ga K "Joint") := He.cls_ok (T.c.fact 59 (f := .cls "Joint") rfl)
theorem Tx.mk_Joint (T : Tx K mg) : Mk K (He.ga K "Joint") (He.ma K (He.ga K "Joint") "__init__") := He.mkr_ok (T.c.fact 60 (f := .mkr "Joint") rfl)
theorem Tx.n_Joint_within (T : Tx K mg) : NoAttr K (He.ga K "Joint") "within" := He.noat_ok (T.c.fact 61 (f := .noat "Joint" "within") rfl)
theorem Tx.n_Joint_first (T : Tx K mg) : NoAttr K (He.ga K "Joint") "first" := He.noat_ok (T.c.fact 62 (f := .noat "Joint" "first") rfl)
theorem Tx.n_Joint_kept (T : Tx K mg) : NoAttr K (He.ga K "Joint") "kept" := He.noat_ok (T.c.fact 63 (f := .noat "Joint" "kept") rfl)
theorem Tx.n_Joint_called (T : Tx K mg) : NoAttr K (He.ga K "Joint") "called" := He.noat_ok (T.c.fact 64 (f := .noat "Joint" "called") rfl)
theorem Tx.n_Joint_tied (T : Tx K mg) : NoAttr K (He.ga K "Joint") "tied" := He.noat_ok (T.c.fact 65 (f := .noat "Joint" "tied") rfl)
theorem Tx.m_Joint_made (T : Tx K mg) : Meth K (He.ga K "Joint") "made" (He.ma K (He.ga K "Joint") "made") := He.meth_ok (T.c.fact 66 (f := .meth "Joint" "made") rfl)
theorem Tx.m_Joint_place (T : Tx K mg) : Meth K (He.ga K "Joint") "place" (He.ma K (He.ga K "Joint") "place") := He.meth_ok (T.c.fact 67 (f := .meth "Joint" "place") rfl)
theorem Tx.m_Joint_inner (T : Tx K mg) : Meth K (He.ga K "Joint") "inner" (He.ma K (He.ga K "Joint") "inner") := He.meth_ok (T.c.fact 68 (f := .meth "Joint" "inner") rfl)
theorem Tx.m_Joint_unfolded (T : Tx K mg) : Meth K (He.ga K "Joint") "unfolded" (He.ma K (He.ga K "Joint") "unfolded") := He.meth_ok (T.c.fact 69 (f := .meth "Joint" "unfolded") rfl)
theorem Tx.b_zip (T : Tx K mg) : mg "zip" = none := let ⟨_, X, G⟩ := T.h; He.free_ok X G (T.c.fact 70 (f := .free "zip") rfl)
theorem Tx.b_len (T : Tx K mg) : mg "len" = none := let ⟨_, X, G⟩ := T.h; He.free_ok X G (T.c.fact 71 (f := .free "len") rfl)
theorem Tx.b_list (T : Tx K mg) : mg "list" = none := let ⟨_, X, G⟩ := T.h; He.free_ok X G (T.c.fact 72 (f := .free "list") rfl)
theorem Tx.b_sorted (T : Tx K mg) : mg "sorted" = none := let ⟨_, X, G⟩ := T.h; He.free_ok X G (T.c.fact 73 (f := .free "sorted") rfl)
theorem Tx.b_enumerate (T : Tx K mg) : mg "enumerate" = none := let ⟨_, X, G⟩ := T.h; He.free_ok X G (T.c.fact 74 (f := .free "enumerate") rfl)
theorem Tx.b_range (T : Tx K mg) : mg "range" = none := let ⟨_, X, G⟩ := T.h; He.free_ok X G (T.c.fact 75 (f := .free "range") rfl)
theorem Tx.b_min (T : Tx K mg) : mg "min" = none := let ⟨_, X, G⟩ := T.h; He.free_ok X G (T.c.fact 76 (f := .free "min") rfl)
theorem Tx.b_sum (T : Tx K mg) : mg "sum" = none := let ⟨_, X, G⟩ := T.h; He.free_ok X G (T.c.fact 77 (f := .free "sum") rfl)
theorem Tx.b_isinstance (T : Tx K mg) : mg "isinstance" = none := let ⟨_, X, G⟩ := T.h; He.free_ok X G (T.c.fact 78 (f := .free "isinstance") rfl)
theorem Tx.b_all (T : Tx K mg) : mg "all" = none := let ⟨_, X, G⟩ := T.h; He.free_ok X G (T.c.fact 79 (f := .free "all") rfl)
theorem Tx.b_reversed (T : Tx K mg) : mg "reversed" = none := let ⟨_, X, G⟩ := T.h; He.free_ok X G (T.c.fact 80 (f := .free "reversed") rfl)
theorem Tx.b_str (T : Tx K mg) : mg "str" = none := let ⟨_, X, G⟩ := T.h; He.free_ok X G (T.c.fact 81 (f := .free "str") rfl)
theorem Tx.b_int (T : Tx K mg) : mg "int" = none := let ⟨_, X, G⟩ := T.h; He.free_ok X G (T.c.fact 82 (f := .free "int") rfl)
theorem Tx.b_bool (T : Tx K mg) : mg "bool" = none := let ⟨_, X, G⟩ := T.h; He.free_ok X G (T.c.fact 83 (f := .free "bool") rfl)
theorem Tx.b_tuple (T : Tx K mg) : mg "tuple" = none := let ⟨_, X, G⟩ := T.h; He.free_ok X G (T.c.fact 84 (f := .free "tuple") rfl)
theorem Tx.i_MOST_WORKS (T : Tx K mg) : ∃ t, mg "MOST_WORKS" = some (.int 30 t) := let ⟨_, X, G⟩ := T.h; He.int_ok X G (T.c.fact 85 (f := .int "MOST_WORKS" 30) rfl)
theorem Tx.i_MOST_BELTS (T : Tx K mg) : ∃ t, mg "MOST_BELTS" = some (.int 60 t) := let ⟨_, X, G⟩ := T.h; He.int_ok X G (T.c.fact 86 (f := .int "MOST_BELTS" 60) rfl)
theorem Tx.i_MOST_TURNS (T : Tx K mg) : ∃ t, mg "MOST_TURNS" = some (.int 400 t) := let ⟨_, X, G⟩ := T.h; He.int_ok X G (T.c.fact 87 (f := .int "MOST_TURNS" 400) rfl)
theorem Tx.s_LETTERS (T : Tx K mg) : ∃ t, mg "LETTERS" = some (.str "abcdefghijklmnopqrstuvwxyz" t) := let ⟨_, X, G⟩ := T.h; He.str_ok X G (T.c.fact 88 (f := .str "LETTERS" "abcdefghijklmnopqrstuvwxyz") rfl)
theorem Tx.df_is_ready (T : Tx K mg) : ∃ fd, FunD K "is_ready" "is_ready" (defArgs s_is_ready) (defBody s_is_ready) (defScope s_is_ready) [] [] (He.ga K "is_ready") fd := T.c.def_ 0 (d := d_is_ready) rfl
theorem Tx.df_shift (T : Tx K mg) : ∃ fd, FunD K "shift" "shift" (defArgs s_shift) (defBody s_shift) (defScope s_shift) [] [] (He.ga K "shift") fd := T.c.def_ 1 (d := d_shift) rfl
theorem Tx.df_Floor_init (T : Tx K mg) : ∃ fd, FunD K "__init__" "Floor.__init__" (defArgs s_Floor_init) (defBody s_Floor_init) (defScope s_Floor_init) [] [] (He.ma K (He.ga K "Floor") "__init__") fd := T.c.def_ 2 (d := d_Floor_init) rfl
theorem Tx.df_Floor_need_work (T : Tx K mg) : ∃ fd, FunD K "need_work" "Floor.need_work" (defArgs s_Floor_need_work) (defBody s_Floor_need_work) (defScope s_Floor_need_work) [] [] (He.ma K (He.ga K "Floor") "need_work") fd := T.c.def_ 3 (d := d_Floor_need_work) rfl
theorem Tx.df_Floor_ready (T : Tx K mg) : ∃ fd, FunD K "ready" "Floor.ready" (defArgs s_Floor_ready) (defBody s_Floor_ready) (defScope s_Floor_ready) [] [] (He.ma K (He.ga K "Floor") "ready") fd := T.c.def_ 4 (d := d_Floor_ready) rfl
theorem Tx.df_Floor_turn (T : Tx K mg) : ∃ fd, FunD K "turn" "Floor.turn" (defArgs s_Floor_turn) (defBody s_Floor_turn) (defScope s_Floor_turn) [] [] (He.ma K (He.ga K "Floor") "turn") fd := T.c.def_ 5 (d := d_Floor_turn) rfl
theorem Tx.df_Floor_go (T : Tx K mg) : ∃ fd, FunD K "go" "Floor.go" (defArgs s_Floor_go) (defBody s_Floor_go) (defScope s_Floor_go) [] [] (He.ma K (He.ga K "Floor") "go") fd := T.c.def_ 6 (d := d_Floor_go) rfl
theorem Tx.df_is_name (T : Tx K mg) : ∃ fd, FunD K "is_name" "is_name" (defArgs s_is_name) (defBody s_is_name) (defScope s_is_name) [] [] (He.ga K "is_name") fd := T.c.def_ 7 (d := d_is_name) rfl
theorem Tx.df_Hall_init (T : Tx K mg) : ∃ fd, FunD K "__init__" "Hall.__init__" (defArgs s_Hall_init) (defBody s_Hall_init) (defScope s_Hall_init) [] [] (He.ma K (He.ga K "Hall") "__init__") fd := T.c.def_ 8 (d := d_Hall_init) rfl
theorem Tx.df_Hall_need (T : Tx K mg) : ∃ fd, FunD K "need" "Hall.need" (defArgs s_Hall_need) (defBody s_Hall_need) (defScope s_Hall_need) [] [] (He.ma K (He.ga K "Hall") "need") fd := T.c.def_ 9 (d := d_Hall_need) rfl
theorem Tx.df_Hall_work (T : Tx K mg) : ∃ fd, FunD K "work" "Hall.work" (defArgs s_Hall_work) (defBody s_Hall_work) (defScope s_Hall_work) [] [] (He.ma K (He.ga K "Hall") "work") fd := T.c.def_ 10 (d := d_Hall_work) rfl
theorem Tx.df_Hall_belt (T : Tx K mg) : ∃ fd, FunD K "belt" "Hall.belt" (defArgs s_Hall_belt) (defBody s_Hall_belt) (defScope s_Hall_belt) [V.int 0] [] (He.ma K (He.ga K "Hall") "belt") fd := T.c.def_ 11 (d := d_Hall_belt) rfl
theorem Tx.df_Hall_lay (T : Tx K mg) : ∃ fd, FunD K "lay" "Hall.lay" (defArgs s_Hall_lay) (defBody s_Hall_lay) (defScope s_Hall_lay) [] [] (He.ma K (He.ga K "Hall") "lay") fd := T.c.def_ 12 (d := d_Hall_lay) rfl
theorem Tx.df_Hall_fill (T : Tx K mg) : ∃ fd, FunD K "fill" "Hall.fill" (defArgs s_Hall_fill) (defBody s_Hall_fill) (defScope s_Hall_fill) [] [] (He.ma K (He.ga K "Hall") "fill") fd := T.c.def_ 13 (d := d_Hall_fill) rfl
theorem Tx.df_Hall_names (T : Tx K mg) : ∃ fd, FunD K "names" "Hall.names" (defArgs s_Hall_names) (defBody s_Hall_names) (defScope s_Hall_names) [] [] (He.ma K (He.ga K "Hall") "names") fd := T.c.def_ 14 (d := d_Hall_names) rfl
theorem Tx.df_Hall_belts (T : Tx K mg) : ∃ fd, FunD K "belts" "Hall.belts" (defArgs s_Hall_belts) (defBody s_Hall_belts) (defScope s_Hall_belts) [] [] (He.ma K (He.ga K "Hall") "belts") fd := T.c.def_ 15 (d := d_Hall_belts) rfl
theorem Tx.df_Hall_belt_at (T : Tx K mg) : ∃ fd, FunD K "belt_at" "Hall.belt_at" (defArgs s_Hall_belt_at) (defBody s_Hall_belt_at) (defScope s_Hall_belt_at) [] [] (He.ma K (He.ga K "Hall") "belt_at") fd := T.c.def_ 16 (d := d_Hall_belt_at) rfl
theorem Tx.df_divisor (T : Tx K mg) : ∃ fd, FunD K "divisor" "divisor" (defArgs s_divisor) (defBody s_divisor) (defScope s_divisor) [] [] (He.ga K "divisor") fd := T.c.def_ 17 (d := d_divisor) rfl
theorem Tx.df_multiple (T : Tx K mg) : ∃ fd, FunD K "multiple" "multiple" (defArgs s_multiple) (defBody s_multiple) (defScope s_multiple) [] [] (He.ga K "multiple") fd := T.c.def_ 18 (d := d_multiple) rfl
theorem Tx.df_ratio (T : Tx K mg) : ∃ fd, FunD K "ratio" "ratio" (defArgs s_ratio) (defBody s_ratio) (defScope s_ratio) [] [] (He.ga K "ratio") fd := T.c.def_ 19 (d := d_ratio) rfl
theorem Tx.df_times (T : Tx K mg) : ∃ fd, FunD K "times" "times" (defArgs s_times) (defBody s_times) (defScope s_times) [] [] (He.ga K "times") fd := T.c.def_ 20 (d := d_times) rfl
theorem Tx.df_reached (T : Tx K mg) : ∃ fd, FunD K "reached" "reached" (defArgs s_reached) (defBody s_reached) (defScope s_reached) [] [] (He.ga K "reached") fd := T.c.def_ 21 (d := d_reached) rfl
theorem Tx.df_pieces_of (T : Tx K mg) : ∃ fd, FunD K "pieces_of" "pieces_of" (defArgs s_pieces_of) (defBody s_pieces_of) (defScope s_pieces_of) [] [] (He.ga K "pieces_of") fd := T.c.def_ 22 (d := d_pieces_of) rfl
theorem Tx.df_Spread_init (T : Tx K mg) : ∃ fd, FunD K "__init__" "Spread.__init__" (defArgs s_Spread_init) (defBody s_Spread_init) (defScope s_Spread_init) [] [] (He.ma K (He.ga K "Spread") "__init__") fd := T.c.def_ 23 (d := d_Spread_init) rfl
theorem Tx.df_Spread_walk_from (T : Tx K mg) : ∃ fd, FunD K "walk_from" "Spread.walk_from" (defArgs s_Spread_walk_from) (defBody s_Spread_walk_from) (defScope s_Spread_walk_from) [] [] (He.ma K (He.ga K "Spread") "walk_from") fd := T.c.def_ 24 (d := d_Spread_walk_from) rfl
theorem Tx.df_Spread_come_to (T : Tx K mg) : ∃ fd, FunD K "come_to" "Spread.come_to" (defArgs s_Spread_come_to) (defBody s_Spread_come_to) (defScope s_Spread_come_to) [] [] (He.ma K (He.ga K "Spread") "come_to") fd := T.c.def_ 25 (d := d_Spread_come_to) rfl
theorem Tx.df_Spread_odd_belt (T : Tx K mg) : ∃ fd, FunD K "odd_belt" "Spread.odd_belt" (defArgs s_Spread_odd_belt) (defBody s_Spread_odd_belt) (defScope s_Spread_odd_belt) [] [] (He.ma K (He.ga K "Spread") "odd_belt") fd := T.c.def_ 26 (d := d_Spread_odd_belt) rfl
theorem Tx.df_whole_rates (T : Tx K mg) : ∃ fd, FunD K "whole_rates" "whole_rates" (defArgs s_whole_rates) (defBody s_whole_rates) (defScope s_whole_rates) [] [] (He.ga K "whole_rates") fd := T.c.def_ 27 (d := d_whole_rates) rfl
theorem Tx.df_rates_of (T : Tx K mg) : ∃ fd, FunD K "rates_of" "rates_of" (defArgs s_rates_of) (defBody s_rates_of) (defScope s_rates_of) [] [] (He.ga K "rates_of") fd := T.c.def_ 28 (d := d_rates_of) rfl
theorem Tx.df_members_of (T : Tx K mg) : ∃ fd, FunD K "members_of" "members_of" (defArgs s_members_of) (defBody s_members_of) (defScope s_members_of) [] [] (He.ga K "members_of") fd := T.c.def_ 29 (d := d_members_of) rfl
theorem Tx.df_turns_of (T : Tx K mg) : ∃ fd, FunD K "turns_of" "turns_of" (defArgs s_turns_of) (defBody s_turns_of) (defScope s_turns_of) [] [] (He.ga K "turns_of") fd := T.c.def_ 30 (d := d_turns_of) rfl
theorem Tx.df_inner_hall (T : Tx K mg) : ∃ fd, FunD K "inner_hall" "inner_hall" (defArgs s_inner_hall) (defBody s_inner_hall) (defScope s_inner_hall) [] [] (He.ga K "inner_hall") fd := T.c.def_ 31 (d := d_inner_hall) rfl
theorem Tx.df_inner_row (T : Tx K mg) : ∃ fd, FunD K "inner_row" "inner_row" (defArgs s_inner_row) (defBody s_inner_row) (defScope s_inner_row) [] [] (He.ga K "inner_row") fd := T.c.def_ 32 (d := d_inner_row) rfl
theorem Tx.df_Joint_init (T : Tx K mg) : ∃ fd, FunD K "__init__" "Joint.__init__" (defArgs s_Joint_init) (defBody s_Joint_init) (defScope s_Joint_init) [] [] (He.ma K (He.ga K "Joint") "__init__") fd := T.c.def_ 33 (d := d_Joint_init) rfl
theorem Tx.df_Joint_made (T : Tx K mg) : ∃ fd, FunD K "made" "Joint.made" (defArgs s_Joint_made) (defBody s_Joint_made) (defScope s_Joint_made) [] [] (He.ma K (He.ga K "Joint") "made") fd := T.c.def_ 34 (d := d_Joint_made) rfl
theorem Tx.df_Joint_place (T : Tx K mg) : ∃ fd, FunD K "place" "Joint.place" (defArgs s_Joint_place) (defBody s_Joint_place) (defScope s_Joint_place) [] [] (He.ma K (He.ga K "Joint") "place") fd := T.c.def_ 35 (d := d_Joint_place) rfl
theorem Tx.df_Joint_inner (T : Tx K mg) : ∃ fd, FunD K "inner" "Joint.inner" (defArgs s_Joint_inner) (defBody s_Joint_inner) (defScope s_Joint_inner) [] [] (He.ma K (He.ga K "Joint") "inner") fd := T.c.def_ 36 (d := d_Joint_inner) rfl
theorem Tx.df_Joint_unfolded (T : Tx K mg) : ∃ fd, FunD K "unfolded" "Joint.unfolded" (defArgs s_Joint_unfolded) (defBody s_Joint_unfolded) (defScope s_Joint_unfolded) [] [] (He.ma K (He.ga K "Joint") "unfolded") fd := T.c.def_ 37 (d := d_Joint_unfolded) rfl
theorem Tx.df_l_cell_at (T : Tx K mg) : ∃ fd, FunD K "_law_cell_at" "_law_cell_at" (defArgs s_l_cell_at) (defBody s_l_cell_at) (defScope s_l_cell_at) [] [] (He.ga K "_law_cell_at") fd := T.c.def_ 38 (d := d_l_cell_at) rfl
theorem Tx.df_l_names (T : Tx K mg) : ∃ fd, FunD K "_law_names" "_law_names" (defArgs s_l_names) (defBody s_l_names) (defScope s_l_names) [] [] (He.ga K "_law_names") fd := T.c.def_ 39 (d := d_l_names) rfl
theorem Tx.df_l_common (T : Tx K mg) : ∃ fd, FunD K "_law_common" "_law_common" (defArgs s_l_common) (defBody s_l_common) (defScope s_l_common) [] [] (He.ga K "_law_common") fd := T.c.def_ 40 (d := d_l_common) rfl
theorem Tx.df_l_belt_by (T : Tx K mg) : ∃ fd, FunD K "_law_belt_by" "_law_belt_by" (defArgs s_l_belt_by) (defBody s_l_belt_by) (defScope s_l_belt_by) [] [] (He.ga K "_law_belt_by") fd := T.c.def_ 41 (d := d_l_belt_by) rfl
theorem Tx.df_l_least (T : Tx K mg) : ∃ fd, FunD K "_law_least" "_law_least" (defArgs s_l_least) (defBody s_l_least) (defScope s_l_least) [] [] (He.ga K "_law_least") fd := T.c.def_ 42 (d := d_l_least) rfl
theorem Tx.df_l_made (T : Tx K mg) : ∃ fd, FunD K "_law_made" "_law_made" (defArgs s_l_made) (defBody s_l_made) (defScope s_l_made) [] [] (He.ga K "_law_made") fd := T.c.def_ 43 (d := d_l_made) rfl
theorem Tx.df_l_group_by (T : Tx K mg) : ∃ fd, FunD K "_law_group_by" "_law_group_by" (defArgs s_l_group_by) (defBody s_l_group_by) (defScope s_l_group_by) [] [] (He.ga K "_law_group_by") fd := T.c.def_ 44 (d := d_l_group_by) rfl
theorem Tx.df_l_wholes (T : Tx K mg) : ∃ fd, FunD K "_law_wholes" "_law_wholes" (defArgs s_l_wholes) (defBody s_l_wholes) (defScope s_l_wholes) [] [] (He.ga K "_law_wholes") fd := T.c.def_ 45 (d := d_l_wholes) rfl
theorem Tx.df_l_joined (T : Tx K mg) : ∃ fd, FunD K "_law_joined" "_law_joined" (defArgs s_l_joined) (defBody s_l_joined) (defScope s_l_joined) [] [] (He.ga K "_law_joined") fd := T.c.def_ 46 (d := d_l_joined) rfl
theorem Tx.df_l_hall_good (T : Tx K mg) : ∃ fd, FunD K "_law_hall_good" "_law_hall_good" (defArgs s_l_hall_good) (defBody s_l_hall_good) (defScope s_l_hall_good) [] [] (He.ga K "_law_hall_good") fd := T.c.def_ 47 (d := d_l_hall_good) rfl
theorem Tx.df_law (T : Tx K mg) : ∃ fd, FunD K "law" "law" (defArgs s_law) (defBody s_law) (defScope s_law) [] [] (He.ga K "law") fd := T.c.def_ 48 (d := d_law) rfl
end
end RH
/-! Ratehall, law k22: the mathematics, plain Lean, no program in sight. -/
namespace RH

/-- the i-th of a list of numbers (0 beyond) -/
def nth (l : List Nat) (i : Nat) : Nat := l.getD i 0
theorem nth_of {l : List Nat} {i x : Nat} (h : l[i]? = some x) : nth l i = x := by
  unfold nth
  rw [List.getD_eq_getElem?_getD, h]
  rfl
theorem of_nth {l : List Nat} {i : Nat} (h : i < l.length) : l[i]? = some (nth l i) := by
  unfold nth
  rw [List.getD_eq_getElem?_getD, List.getElem?_eq_getElem h]
  rfl
theorem nth_set_self {l : List Nat} {i x : Nat} (h : i < l.length) : nth (l.set i x) i = x := nth_of (List.getElem?_set_self h)
theorem nth_set_ne {l : List Nat} {i j x : Nat} (h : i ≠ j) : nth (l.set i x) j = nth l j := by
  unfold nth
  rw [List.getD_eq_getElem?_getD, List.getD_eq_getElem?_getD, List.getElem?_set_ne h]
theorem nth_out {l : List Nat} {i : Nat} (h : l.length ≤ i) : nth l i = 0 := by
  unfold nth
  rw [List.getD_eq_getElem?_getD, List.getElem?_eq_none h]
  rfl
theorem nth_map {l : List Nat} {f : Nat → Nat} {i : Nat} (h : i < l.length) : nth (l.map f) i = f (nth l i) := by
  apply nth_of
  rw [List.getElem?_map, of_nth h]
  rfl
theorem nth_mem {l : List Nat} {i : Nat} (h : i < l.length) : nth l i ∈ l := List.mem_of_getElem? (of_nth h)
theorem ext_nth {l m : List Nat} (hl : l.length = m.length) (h : ∀ i, i < l.length → nth l i = nth m i) : l = m := by
  apply List.ext_getElem? 
  intro i
  by_cases hi : i < l.length
  · rw [of_nth hi, of_nth (by omega), h i hi]
  · rw [List.getElem?_eq_none (by omega), List.getElem?_eq_none (by omega)]

/-- a fold, one item further -/
theorem foldl_take {α β : Type} (f : β → α → β) (a : β) : ∀ {xs : List α} {i : Nat} {x : α}, xs[i]? = some x → (xs.take (i + 1)).foldl f a = f ((xs.take i).foldl f a) x := by
  intro xs i x h
  rw [List.take_add_one, h, List.foldl_append]
  rfl

/-! ### gcd of many -/
def gcdL (xs : List Nat) : Nat := xs.foldl Nat.gcd 0
theorem dvd_foldl {d : Nat} : ∀ {xs : List Nat} {a : Nat}, d ∣ xs.foldl Nat.gcd a ↔ d ∣ a ∧ ∀ x, x ∈ xs → d ∣ x
  | [], a => by simp
  | y :: ys, a => by
    rw [List.foldl_cons, dvd_foldl (xs := ys), Nat.dvd_gcd_iff]
    constructor
    · rintro ⟨⟨h1, h2⟩, h3⟩
      exact ⟨h1, fun x hx => (List.mem_cons.mp hx).elim (fun e => e ▸ h2) (h3 x)⟩
    · rintro ⟨h1, h2⟩
      exact ⟨⟨h1, h2 y List.mem_cons_self⟩, fun x hx => h2 x (List.mem_cons_of_mem _ hx)⟩
theorem dvd_gcdL {d : Nat} {xs : List Nat} : d ∣ gcdL xs ↔ ∀ x, x ∈ xs → d ∣ x := by
  unfold gcdL
  rw [dvd_foldl]
  exact ⟨fun h => h.2, fun h => ⟨Nat.dvd_zero d, h⟩⟩
theorem gcdL_dvd {xs : List Nat} {x : Nat} (h : x ∈ xs) : gcdL xs ∣ x := dvd_gcdL.mp (Nat.dvd_refl _) x h
theorem gcdL_mul (k : Nat) (xs : List Nat) : gcdL (xs.map (· * k)) = gcdL xs * k := by
  have : ∀ (xs : List Nat) (a : Nat), (xs.map (· * k)).foldl Nat.gcd (a * k) = xs.foldl Nat.gcd a * k := by
    intro xs
    induction xs with
    | nil => intro a; rfl
    | cons y ys ih =>
      intro a
      rw [List.map_cons, List.foldl_cons, List.foldl_cons, Nat.gcd_mul_right, ih]
  have h := this xs 0
  rw [Nat.zero_mul] at h
  exact h
theorem gcdL_pos {xs : List Nat} {x : Nat} (h : x ∈ xs) (hx : 0 < x) : 0 < gcdL xs := Nat.pos_of_dvd_of_pos (gcdL_dvd h) hx
theorem gcdL_congr {xs ys : List Nat} (h : ∀ d : Nat, (∀ x, x ∈ xs → d ∣ x) ↔ (∀ y, y ∈ ys → d ∣ y)) : gcdL xs = gcdL ys :=
  Nat.dvd_antisymm (dvd_gcdL.mpr ((h _).mp (dvd_gcdL.mp (Nat.dvd_refl _)))) (dvd_gcdL.mpr ((h _).mpr (dvd_gcdL.mp (Nat.dvd_refl _))))

/-! ### ratios -/
def red (a b : Nat) : Nat × Nat := (a / Nat.gcd a b, b / Nat.gcd a b)
theorem red_scale {k a b : Nat} (hk : 0 < k) : red (k * a) (k * b) = red a b := by
  unfold red
  rw [Nat.gcd_mul_left, Nat.mul_div_mul_left _ _ hk, Nat.mul_div_mul_left _ _ hk]
theorem red_cross {a b c d : Nat} (hb : 0 < b) (hd : 0 < d) (h : a * d = c * b) : red a b = red c d := by
  rw [← red_scale (a := a) (b := b) hd, ← red_scale (a := c) (b := d) hb, Nat.mul_comm d a, h, Nat.mul_comm c b, Nat.mul_comm d b]
theorem red_self {a : Nat} (h : 0 < a) : red a a = (1, 1) := by
  unfold red
  rw [Nat.gcd_self, Nat.div_self h]
def tms (x y : Nat × Nat) : Nat × Nat := red (x.1 * y.1) (x.2 * y.2)
theorem red_fst {a b : Nat} : (red a b).1 * Nat.gcd a b = a := Nat.div_mul_cancel (Nat.gcd_dvd_left a b)
theorem red_snd {a b : Nat} : (red a b).2 * Nat.gcd a b = b := Nat.div_mul_cancel (Nat.gcd_dvd_right a b)
theorem tms_red {a b c d : Nat} (ha : 0 < a) (hc : 0 < c) : tms (red a b) (red c d) = red (a * c) (b * d) := by
  have h1 : 0 < Nat.gcd a b := Nat.gcd_pos_of_pos_left _ ha
  have h2 : 0 < Nat.gcd c d := Nat.gcd_pos_of_pos_left _ hc
  have h : 0 < Nat.gcd a b * Nat.gcd c d := Nat.mul_pos h1 h2
  unfold tms
  rw [← red_scale h]
  congr 1
  · calc Nat.gcd a b * Nat.gcd c d * ((red a b).1 * (red c d).1) = ((red a b).1 * Nat.gcd a b) * ((red c d).1 * Nat.gcd c d) := by
          simp only [Nat.mul_comm, Nat.mul_left_comm, Nat.mul_assoc]
      _ = a * c := by rw [red_fst, red_fst]
  · calc Nat.gcd a b * Nat.gcd c d * ((red a b).2 * (red c d).2) = ((red a b).2 * Nat.gcd a b) * ((red c d).2 * Nat.gcd c d) := by
          simp only [Nat.mul_comm, Nat.mul_left_comm, Nat.mul_assoc]
      _ = b * d := by rw [red_snd, red_snd]
theorem red_pos {a b : Nat} (ha : 0 < a) (hb : 0 < b) : 0 < (red a b).1 ∧ 0 < (red a b).2 := by
  have h1 : (red a b).1 * Nat.gcd a b = a := red_fst
  have h2 : (red a b).2 * Nat.gcd a b = b := red_snd
  constructor
  · rcases Nat.eq_zero_or_pos (red a b).1 with e | e
    · rw [e, Nat.zero_mul] at h1; omega
    · exact e
  · rcases Nat.eq_zero_or_pos (red a b).2 with e | e
    · rw [e, Nat.zero_mul] at h2; omega
    · exact e
theorem red_le {a b : Nat} : (red a b).1 ≤ a ∧ (red a b).2 ≤ b := ⟨Nat.div_le_self _ _, Nat.div_le_self _ _⟩
/-- one belt further: of the ratios of the giver and the belt that of the taker -/
theorem red_step {rg rt rf gv tk : Nat} (hg : 0 < rg) (hf : 0 < rf) (hv : 0 < gv) (hk : 0 < tk) (h : gv * rg = tk * rt) : tms (red rg rf) (red gv tk) = red rt rf := by
  rw [tms_red hg hv]
  refine red_cross (Nat.mul_pos hf hk) hf ?_
  rw [Nat.mul_comm rg gv, h]
  simp only [Nat.mul_comm, Nat.mul_left_comm, Nat.mul_assoc]

/-! ### belts, and where one comes along them -/
structure Belt where
  g : Nat
  t : Nat
  gv : Nat
  tk : Nat
  st : Nat
def Edge (bs : List Belt) (a b : Nat) : Prop := ∃ e, e ∈ bs ∧ ((e.g = a ∧ e.t = b) ∨ (e.t = a ∧ e.g = b))
theorem Edge.symm {bs : List Belt} {a b : Nat} (h : Edge bs a b) : Edge bs b a := by
  obtain ⟨e, he, h | h⟩ := h
  · exact ⟨e, he, .inr ⟨h.2, h.1⟩⟩
  · exact ⟨e, he, .inl ⟨h.2, h.1⟩⟩
inductive Conn (bs : List Belt) : Nat → Nat → Prop
  | refl (a : Nat) : Conn bs a a
  | step {a b c : Nat} : Conn bs a b → Edge bs b c → Conn bs a c
theorem Conn.one {bs : List Belt} {a b : Nat} (h : Edge bs a b) : Conn bs a b := .step (.refl a) h
theorem Conn.trans {bs : List Belt} {a b c : Nat} (h : Conn bs a b) (k : Conn bs b c) : Conn bs a c := by
  induction k with
  | refl => exact h
  | step _ e ih => exact .step ih e
theorem Conn.symm {bs : List Belt} {a b : Nat} (h : Conn bs a b) : Conn bs b a := by
  induction h with
  | refl => exact .refl _
  | step _ e ih => exact (Conn.one e.symm).trans ih
/-- what is the same along each belt is the same all along -/
theorem Conn.inv {bs : List Belt} {P : Nat → Prop} (h : ∀ e, e ∈ bs → (P e.g ↔ P e.t)) {a b : Nat} (c : Conn bs a b) (ha : P a) : P b := by
  induction c with
  | refl => exact ha
  | step _ e ih =>
    obtain ⟨e, he, z | z⟩ := e
    · rw [← z.2, ← h e he, z.1]; exact ih
    · rw [← z.2, h e he, z.1]; exact ih

/-- rates that balance: numbered works below n -/
structure Bal (n : Nat) (bs : List Belt) (r : List Nat) : Prop where
  len : r.length = n
  pos : ∀ w, w < n → 0 < nth r w
  le6 : ∀ w, w < n → nth r w ≤ 6
  bel : ∀ e, e ∈ bs → e.g < n ∧ e.t < n ∧ 0 < e.gv ∧ 0 < e.tk ∧ e.gv < 2 ^ 100 ∧ e.tk < 2 ^ 100 ∧ e.st < 2 ^ 100
  bal : ∀ e, e ∈ bs → e.gv * nth r e.g = e.tk * nth r e.t
/-- .. and in no piece a number above 1 divides all of them -/
structure Rts (n : Nat) (bs : List Belt) (r : List Nat) : Prop extends Bal n bs r where
  prim : ∀ w, w < n → ∀ d : Nat, (∀ v, v < n → Conn bs w v → d ∣ nth r v) → d = 1
theorem Bal.edge {n : Nat} {bs : List Belt} {r : List Nat} (B : Bal n bs r) {a b : Nat} (h : Edge bs a b) : a < n ∧ b < n := by
  obtain ⟨e, he, ⟨rfl, rfl⟩ | ⟨rfl, rfl⟩⟩ := h
  · exact ⟨(B.bel e he).1, (B.bel e he).2.1⟩
  · exact ⟨(B.bel e he).2.1, (B.bel e he).1⟩
theorem Bal.conn {n : Nat} {bs : List Belt} {r : List Nat} (B : Bal n bs r) {a b : Nat} (h : Conn bs a b) (ha : a < n) : b < n := by
  induction h with
  | refl => exact ha
  | step _ e _ => exact (B.edge e).2

/-! ### the rates of a piece, from the ratios -/
/-- each number goes like its rate: numbers of a piece whose rates have no divisor; the numbers by their divisor are the rates -/
theorem prim_rates {rs ns : List Nat} {rf c : Nat} (hl : ns.map (· * rf) = rs.map (· * c)) (hp : gcdL rs = 1) (hf : 0 < rf) : gcdL ns * rf = c := by
  rw [← gcdL_mul, hl, gcdL_mul, hp, Nat.one_mul]
theorem rate_of {n r rf c G : Nat} (h : n * rf = r * c) (hG : G * rf = c) (hf : 0 < rf) (hG0 : 0 < G) : n / G = r := by
  have e : n * rf = (r * G) * rf := by rw [h, ← hG, Nat.mul_assoc]
  have e2 : n = r * G := Nat.eq_of_mul_eq_mul_right hf e
  rw [e2, Nat.mul_div_cancel _ hG0]
/-- numerator times what is left of a common multiple of the denominators -/
theorem num_of {r rf c : Nat} (hd : (red r rf).2 ∣ c) (hf : 0 < rf) : ((red r rf).1 * (c / (red r rf).2)) * rf = r * c := by
  obtain ⟨k, rfl⟩ := hd
  have h2 : (red r rf).2 * Nat.gcd r rf = rf := red_snd
  have hp : 0 < (red r rf).2 := by
    rcases Nat.eq_zero_or_pos (red r rf).2 with e | e
    · rw [e, Nat.zero_mul] at h2; omega
    · exact e
  rw [Nat.mul_div_cancel_left _ hp]
  have h1 : (red r rf).1 * Nat.gcd r rf = r := red_fst
  calc (red r rf).1 * k * rf = (red r rf).1 * k * ((red r rf).2 * Nat.gcd r rf) := by rw [h2]
    _ = ((red r rf).1 * Nat.gcd r rf) * ((red r rf).2 * k) := by simp only [Nat.mul_comm, Nat.mul_left_comm, Nat.mul_assoc]
    _ = r * ((red r rf).2 * k) := by rw [h1]
theorem den_dvd {r rf : Nat} : (red r rf).2 ∣ rf := ⟨Nat.gcd r rf, red_snd.symm⟩

/-! ### labels that spread along belts -/
def stepL (lab : List Nat) (b : Belt) : List Nat := (lab.set b.g (min (nth lab b.g) (nth lab b.t))).set b.t (min (nth lab b.g) (nth lab b.t))
def round (bs : List Belt) (lab : List Nat) : List Nat := bs.foldl stepL lab
def rounds (bs : List Belt) : Nat → List Nat → List Nat
  | 0, lab => lab
  | k + 1, lab => round bs (rounds bs k lab)
theorem stepL_len {lab : List Nat} {b : Belt} : (stepL lab b).length = lab.length := by
  unfold stepL
  rw [List.length_set, List.length_set]
theorem round_len {bs : List Belt} : ∀ {lab : List Nat}, (round bs lab).length = lab.length := by
  unfold round
  induction bs with
  | nil => intro lab; rfl
  | cons b r ih => intro lab; rw [List.foldl_cons, ih, stepL_len]
theorem rounds_len {bs : List Belt} {lab : List Nat} : ∀ {k : Nat}, (rounds bs k lab).length = lab.length
  | 0 => rfl
  | k + 1 => by
    show (round bs (rounds bs k lab)).length = _
    rw [round_len, rounds_len]
theorem stepL_g {lab : List Nat} {b : Belt} (hg : b.g < lab.length) : nth (stepL lab b) b.g = min (nth lab b.g) (nth lab b.t) := by
  unfold stepL
  by_cases e : b.t = b.g
  · rw [e, nth_set_self (by rw [List.length_set]; exact hg)]
  · rw [nth_set_ne e, nth_set_self hg]
theorem stepL_t {lab : List Nat} {b : Belt} (ht : b.t < lab.length) : nth (stepL lab b) b.t = min (nth lab b.g) (nth lab b.t) := by
  unfold stepL
  rw [nth_set_self (by rw [List.length_set]; exact ht)]
theorem stepL_ne {lab : List Nat} {b : Belt} {w : Nat} (h1 : b.g ≠ w) (h2 : b.t ≠ w) : nth (stepL lab b) w = nth lab w := by
  unfold stepL
  rw [nth_set_ne h2, nth_set_ne h1]
def Within (n : Nat) (bs : List Belt) : Prop := ∀ e, e ∈ bs → e.g < n ∧ e.t < n
theorem stepL_le {lab : List Nat} {b : Belt} (hg : b.g < lab.length) (ht : b.t < lab.length) (w : Nat) : nth (stepL lab b) w ≤ nth lab w := by
  by_cases h1 : b.g = w
  · rw [← h1, stepL_g hg]; exact Nat.min_le_left _ _
  · by_cases h2 : b.t = w
    · rw [← h2, stepL_t ht]; exact Nat.min_le_right _ _
    · rw [stepL_ne h1 h2]; exact Nat.le_refl _
theorem round_le : ∀ {bs : List Belt} {lab : List Nat}, Within lab.length bs → ∀ w, nth (round bs lab) w ≤ nth lab w
  | [], _, _, _ => Nat.le_refl _
  | b :: r, lab, h, w => by
    have hb := h b List.mem_cons_self
    have h2 : Within (stepL lab b).length r := fun e he => by rw [stepL_len]; exact h e (List.mem_cons_of_mem _ he)
    exact Nat.le_trans (round_le (bs := r) (lab := stepL lab b) h2 w) (stepL_le hb.1 hb.2 w)
theorem round_hit : ∀ {bs : List Belt} {lab : List Nat}, Within lab.length bs → ∀ b, b ∈ bs → nth (round bs lab) b.g ≤ nth lab b.t ∧ nth (round bs lab) b.t ≤ nth lab b.g
  | [], _, _, _, h => nomatch h
  | c :: r, lab, h, b, hb => by
    have hc := h c List.mem_cons_self
    have h2 : Within (stepL lab c).length r := fun e he => by rw [stepL_len]; exact h e (List.mem_cons_of_mem _ he)
    show nth (round r (stepL lab c)) b.g ≤ _ ∧ nth (round r (stepL lab c)) b.t ≤ _
    rcases List.mem_cons.mp hb with e | e
    · subst e
      have x1 := round_le h2 b.g
      have x2 := round_le h2 b.t
      rw [stepL_g hc.1] at x1
      rw [stepL_t hc.2] at x2
      exact ⟨Nat.le_trans x1 (Nat.min_le_right _ _), Nat.le_trans x2 (Nat.min_le_left _ _)⟩
    · obtain ⟨x1, x2⟩ := round_hit h2 b e
      exact ⟨Nat.le_trans x1 (stepL_le hc.1 hc.2 _), Nat.le_trans x2 (stepL_le hc.1 hc.2 _)⟩
/-- labels that lie below m stay together -/
def Closed (bs : List Belt) (lab : List Nat) (m : Nat) : Prop := ∀ b, b ∈ bs → (nth lab b.g ≤ m ↔ nth lab b.t ≤ m)
theorem closed_fold {bs0 : List Belt} {m : Nat} {lab0 : List Nat} (hc : Closed bs0 lab0 m) : ∀ {bs : List Belt} {lab : List Nat}, Within lab.length bs → (∀ b, b ∈ bs → b ∈ bs0) → (∀ w, nth lab w ≤ m ↔ nth lab0 w ≤ m) →
    ∀ w, nth (round bs lab) w ≤ m ↔ nth lab0 w ≤ m
  | [], _, _, _, hl, w => hl w
  | b :: r, lab, h, hs, hl, w => by
    have hb := h b List.mem_cons_self
    have h2 : Within (stepL lab b).length r := fun e he => by rw [stepL_len]; exact h e (List.mem_cons_of_mem _ he)
    have k := hc b (hs b List.mem_cons_self)
    have kg := hl b.g
    have kt := hl b.t
    refine closed_fold hc (bs := r) (lab := stepL lab b) h2 (fun e he => hs e (List.mem_cons_of_mem _ he)) (fun v => ?_) w
    by_cases h1 : b.g = v
    · rw [← h1, stepL_g hb.1]
      omega
    · by_cases h3 : b.t = v
      · rw [← h3, stepL_t hb.2]
        omega
      · rw [stepL_ne h1 h3]; exact hl v
theorem closed_round {bs : List Belt} {lab : List Nat} {m : Nat} (hw : Within lab.length bs) (hc : Closed bs lab m) : Closed bs (round bs lab) m := fun b hb => by
  have k := closed_fold hc (bs := bs) (lab := lab) hw (fun _ h => h) (fun _ => Iff.rfl)
  rw [k b.g, k b.t]
  exact hc b hb
def cnt (n : Nat) (lab : List Nat) (m : Nat) : Nat := (List.range n).countP fun w => decide (nth lab w ≤ m)
theorem countP_lt {p q : Nat → Bool} : ∀ {l : List Nat}, (∀ x, x ∈ l → p x = true → q x = true) → (∃ x, x ∈ l ∧ q x = true ∧ p x = false) → l.countP p < l.countP q
  | [], _, ⟨_, h, _⟩ => nomatch h
  | a :: r, hs, ⟨x, hx, hq, hp⟩ => by
    have hr : r.countP p ≤ r.countP q := List.countP_mono_left fun y hy => hs y (List.mem_cons_of_mem _ hy)
    rw [List.countP_cons, List.countP_cons]
    rcases List.mem_cons.mp hx with e | e
    · subst e
      rw [hq, hp]
      simp
      omega
    · have ih := countP_lt (l := r) (fun y hy => hs y (List.mem_cons_of_mem _ hy)) ⟨x, e, hq, hp⟩
      have ha := hs a List.mem_cons_self
      cases h1 : p a with
      | true => rw [ha h1]; simp; omega
      | false => cases q a <;> simp <;> omega
theorem grow {n : Nat} {bs : List Belt} {lab : List Nat} {m : Nat} (hn : lab.length = n) (hw : Within n bs) (hc : ¬ Closed bs lab m) : cnt n lab m < cnt n (round bs lab) m := by
  have hw' : Within lab.length bs := by rw [hn]; exact hw
  have hx : ∃ b, b ∈ bs ∧ ¬ (nth lab b.g ≤ m ↔ nth lab b.t ≤ m) := by
    apply Classical.byContradiction
    intro h
    exact hc fun b hb => Classical.byContradiction fun z => h ⟨b, hb, z⟩
  obtain ⟨b, hb, hne⟩ := hx
  have hit := round_hit hw' b hb
  have hle := round_le hw'
  refine countP_lt (fun w _ h => decide_eq_true (Nat.le_trans (hle w) (of_decide_eq_true h))) ?_
  by_cases h1 : nth lab b.g ≤ m
  · have h2 : ¬ nth lab b.t ≤ m := fun z => hne ⟨fun _ => z, fun _ => h1⟩
    exact ⟨b.t, List.mem_range.mpr (hw b hb).2, decide_eq_true (Nat.le_trans hit.2 h1), decide_eq_false h2⟩
  · have h2 : nth lab b.t ≤ m := Classical.byContradiction fun z => hne ⟨fun y => absurd y h1, fun y => absurd y z⟩
    exact ⟨b.g, List.mem_range.mpr (hw b hb).1, decide_eq_true (Nat.le_trans hit.1 h2), decide_eq_false h1⟩
theorem closed_or {n : Nat} {bs : List Belt} {lab : List Nat} {m : Nat} (hn : lab.length = n) (hw : Within n bs) : ∀ k : Nat, Closed bs (rounds bs k lab) m ∨ k ≤ cnt n (rounds bs k lab) m
  | 0 => .inr (Nat.zero_le _)
  | k + 1 => by
    have hl : (rounds bs k lab).length = n := by rw [rounds_len, hn]
    have hw' : Within (rounds bs k lab).length bs := by rw [hl]; exact hw
    show Closed bs (round bs (rounds bs k lab)) m ∨ k + 1 ≤ cnt n (round bs (rounds bs k lab)) m
    by_cases hc : Closed bs (rounds bs k lab) m
    · exact .inl (closed_round hw' hc)
    · rcases closed_or hn hw (m := m) k with h | h
      · exact absurd h hc
      · exact .inr (Nat.lt_of_le_of_lt h (grow hl hw hc))
theorem closed_all {n : Nat} {bs : List Belt} {lab : List Nat} (hn : lab.length = n) (hw : Within n bs) (m : Nat) : Closed bs (rounds bs n lab) m := by
  rcases closed_or hn hw (m := m) n with h | h
  · exact h
  · have hall : ∀ w, w ∈ List.range n → decide (nth (rounds bs n lab) w ≤ m) = true := by
      have h2 : (List.range n).countP (fun w => decide (nth (rounds bs n lab) w ≤ m)) = (List.range n).length := by
        refine Nat.le_antisymm List.countP_le_length ?_
        rw [List.length_range]
        exact h
      exact List.countP_eq_length.mp h2
    intro b hb
    have h1 := of_decide_eq_true (hall b.g (List.mem_range.mpr (hw b hb).1))
    have h2 := of_decide_eq_true (hall b.t (List.mem_range.mpr (hw b hb).2))
    exact ⟨fun _ => h2, fun _ => h1⟩
theorem labels_eq {n : Nat} {bs : List Belt} {lab : List Nat} (hn : lab.length = n) (hw : Within n bs) {b : Belt} (hb : b ∈ bs) : nth (rounds bs n lab) b.g = nth (rounds bs n lab) b.t :=
  Nat.le_antisymm ((closed_all hn hw _ b hb).mpr (Nat.le_refl _)) ((closed_all hn hw _ b hb).mp (Nat.le_refl _))
/-- a label is a work of the piece -/
theorem label_fold {bs0 : List Belt} : ∀ {bs : List Belt} {lab : List Nat}, Within lab.length bs → (∀ b, b ∈ bs → b ∈ bs0) → (∀ w, w < lab.length → Conn bs0 w (nth lab w)) → ∀ w, w < lab.length → Conn bs0 w (nth (round bs lab) w)
  | [], _, _, _, hl => hl
  | b :: r, lab, h, hs, hl => by
    have hb := h b List.mem_cons_self
    have h2 : Within (stepL lab b).length r := fun e he => by rw [stepL_len]; exact h e (List.mem_cons_of_mem _ he)
    have he : Edge bs0 b.g b.t := ⟨b, hs b List.mem_cons_self, .inl ⟨rfl, rfl⟩⟩
    have cg : Conn bs0 b.g (min (nth lab b.g) (nth lab b.t)) := by
      rcases Nat.le_total (nth lab b.g) (nth lab b.t) with z | z
      · rw [Nat.min_eq_left z]; exact hl _ hb.1
      · rw [Nat.min_eq_right z]; exact (Conn.one he).trans (hl _ hb.2)
    have k := label_fold (bs := r) (lab := stepL lab b) h2 (fun e he => hs e (List.mem_cons_of_mem _ he)) (fun w hw => by
      rw [stepL_len] at hw
      by_cases h1 : b.g = w
      · rw [← h1, stepL_g hb.1]; exact cg
      · by_cases h3 : b.t = w
        · rw [← h3, stepL_t hb.2]; exact (Conn.one he.symm).trans cg
        · rw [stepL_ne h1 h3]; exact hl w hw)
    intro w hw
    exact k w (by rw [stepL_len]; exact hw)
theorem label_conn {n : Nat} {bs : List Belt} (hw : Within n bs) : ∀ (k : Nat) (w : Nat), w < n → Conn bs w (nth (rounds bs k (List.range n)) w)
  | 0, w, h => by
    have e : nth (List.range n) w = w := nth_of (by rw [List.getElem?_range h])
    show Conn bs w (nth (List.range n) w)
    rw [e]
    exact .refl w
  | k + 1, w, h => by
    have hl : (rounds bs k (List.range n)).length = n := by rw [rounds_len, List.length_range]
    exact label_fold (lab := rounds bs k (List.range n)) (by rw [hl]; exact hw) (fun _ h => h) (fun v hv => label_conn hw k v (by rw [hl] at hv; exact hv)) w (by rw [hl]; exact h)
def labels (n : Nat) (bs : List Belt) : List Nat := rounds bs n (List.range n)
theorem labels_iff {n : Nat} {bs : List Belt} (hw : Within n bs) {a b : Nat} (ha : a < n) (hb : b < n) : nth (labels n bs) a = nth (labels n bs) b ↔ Conn bs a b := by
  constructor
  · intro e
    have h1 := label_conn hw n a ha
    have h2 := label_conn hw n b hb
    have e' : nth (rounds bs n (List.range n)) a = nth (rounds bs n (List.range n)) b := e
    rw [e'] at h1
    exact h1.trans h2.symm
  · intro c
    have := c.inv (P := fun x => nth (labels n bs) a = nth (labels n bs) x) (fun e he => by
      have q : nth (labels n bs) e.g = nth (labels n bs) e.t := labels_eq (by rw [List.length_range]) hw he
      rw [q]) rfl
    exact this

/-! ### the least rates -/
/-- the divisor of the rates of w's piece, as the law reckons it -/
def pieceGcd (r : List Nat) (lab : List Nat) (n w : Nat) : Nat := (List.range n).foldl (fun a o => if nth lab o = nth lab w then Nat.gcd a (nth r o) else a) 0
theorem pieceGcd_eq (r lab : List Nat) (n w : Nat) : pieceGcd r lab n w = gcdL (((List.range n).filter fun o => decide (nth lab o = nth lab w)).map (nth r)) := by
  unfold pieceGcd gcdL
  have : ∀ (l : List Nat) (a : Nat), l.foldl (fun a o => if nth lab o = nth lab w then Nat.gcd a (nth r o) else a) a = ((l.filter fun o => decide (nth lab o = nth lab w)).map (nth r)).foldl Nat.gcd a := by
    intro l
    induction l with
    | nil => intro a; rfl
    | cons x l ih =>
      intro a
      rw [List.foldl_cons, List.filter_cons]
      by_cases h : nth lab x = nth lab w
      · rw [if_pos h, if_pos (by simp [h]), List.map_cons, List.foldl_cons, ih]
      · rw [if_neg h, if_neg (by simp [h]), ih]
  exact this _ _
theorem dvd_pieceGcd {r lab : List Nat} {n w d : Nat} : d ∣ pieceGcd r lab n w ↔ ∀ o, o < n → nth lab o = nth lab w → d ∣ nth r o := by
  rw [pieceGcd_eq, dvd_gcdL]
  constructor
  · intro h o ho e
    exact h _ (List.mem_map.mpr ⟨o, List.mem_filter.mpr ⟨List.mem_range.mpr ho, decide_eq_true e⟩, rfl⟩)
  · intro h x hx
    obtain ⟨o, ho, rfl⟩ := List.mem_map.mp hx
    obtain ⟨h1, h2⟩ := List.mem_filter.mp ho
    exact h o (List.mem_range.mp h1) (of_decide_eq_true h2)
def least (r : List Nat) (n : Nat) (bs : List Belt) : List Nat := (List.range n).map fun w => nth r w / pieceGcd r (labels n bs) n w
theorem least_len {r : List Nat} {n : Nat} {bs : List Belt} : (least r n bs).length = n := by
  unfold least
  rw [List.length_map, List.length_range]
theorem least_nth {r : List Nat} {n : Nat} {bs : List Belt} {w : Nat} (h : w < n) : nth (least r n bs) w = nth r w / pieceGcd r (labels n bs) n w := by
  apply nth_of
  unfold least
  rw [List.getElem?_map, List.getElem?_range h]
  rfl
theorem least_rts {r : List Nat} {n : Nat} {bs : List Belt} (B : Bal n bs r) : Rts n bs (least r n bs) := by
  have hw : Within n bs := fun e he => ⟨(B.bel e he).1, (B.bel e he).2.1⟩
  have hd : ∀ w, w < n → pieceGcd r (labels n bs) n w ∣ nth r w := fun w h => dvd_pieceGcd.mp (Nat.dvd_refl _) w h rfl
  have hp : ∀ w, w < n → 0 < pieceGcd r (labels n bs) n w := fun w h => Nat.pos_of_dvd_of_pos (hd w h) (B.pos w h)
  have same : ∀ a b, nth (labels n bs) a = nth (labels n bs) b → pieceGcd r (labels n bs) n a = pieceGcd r (labels n bs) n b := fun a b e => by
    unfold pieceGcd
    rw [e]
  have back : ∀ w, w < n → nth (least r n bs) w * pieceGcd r (labels n bs) n w = nth r w := fun w h => by
    rw [least_nth h, Nat.div_mul_cancel (hd w h)]
  refine ⟨⟨least_len, fun w h => ?_, fun w h => ?_, B.bel, fun e he => ?_⟩, fun w h d hall => ?_⟩
  · rw [least_nth h]
    exact Nat.div_pos (Nat.le_of_dvd (B.pos w h) (hd w h)) (hp w h)
  · rw [least_nth h]
    exact Nat.le_trans (Nat.div_le_self _ _) (B.le6 w h)
  · have el : nth (labels n bs) e.g = nth (labels n bs) e.t := labels_eq (by rw [List.length_range]) hw he
    obtain ⟨h1, h2⟩ := hw e he
    have k := B.bal e he
    rw [← back e.g h1, ← back e.t h2, same _ _ el, ← Nat.mul_assoc, ← Nat.mul_assoc] at k
    exact Nat.eq_of_mul_eq_mul_right (hp e.t h2) k
  · have hx : d * pieceGcd r (labels n bs) n w ∣ pieceGcd r (labels n bs) n w := dvd_pieceGcd.mpr fun o ho e => by
      rw [← back o ho, same o w e]
      exact Nat.mul_dvd_mul (hall o ho ((labels_iff hw h ho).mp e.symm)) (Nat.dvd_refl _)
    have hle := Nat.le_of_dvd (hp w h) hx
    have h0 := hp w h
    have hd0 : d ≠ 0 := fun z => by
      subst z
      rw [Nat.zero_mul] at hx
      have := Nat.eq_zero_of_zero_dvd hx
      omega
    rcases Nat.lt_or_ge 1 d with z | z
    · have : 2 * pieceGcd r (labels n bs) n w ≤ d * pieceGcd r (labels n bs) n w := Nat.mul_le_mul_right _ z
      omega
    · omega
end RH
/-! The search of a piece: what holds between two turns (plain Lean). -/
namespace RH
/-- between two turns of the while: found F, to do Td -/
structure Rch (bs : List Belt) (n first : Nat) (F Td : List Nat) : Prop where
  nd : F.Nodup
  lt : ∀ x, x ∈ F → x < n
  con : ∀ x, x ∈ F → Conn bs first x
  sub : ∀ x, x ∈ Td → x ∈ F
  fst : first ∈ F
  cl : ∀ x, x ∈ F → x ∉ Td → ∀ e, e ∈ bs → (e.g = x → e.t ∈ F) ∧ (e.t = x → e.g ∈ F)
/-- within a turn: wk is looked at; m the measure ahead of it -/
structure Mid (bs : List Belt) (n first m wk : Nat) (F Td : List Nat) : Prop where
  nd : F.Nodup
  lt : ∀ x, x ∈ F → x < n
  con : ∀ x, x ∈ F → Conn bs first x
  sub : ∀ x, x ∈ Td → x ∈ F
  fst : first ∈ F
  wkF : wk ∈ F
  cl : ∀ x, x ∈ F → x ∉ Td → x ≠ wk → ∀ e, e ∈ bs → (e.g = x → e.t ∈ F) ∧ (e.t = x → e.g ∈ F)
  sz : Td.length + 2 * n < m + 2 * F.length
theorem nodup_le {n : Nat} : ∀ {F : List Nat}, F.Nodup → (∀ x, x ∈ F → x < n) → F.length ≤ n := by
  induction n with
  | zero =>
    intro F _ h
    cases F with
    | nil => exact Nat.le_refl _
    | cons a r => exact absurd (h a List.mem_cons_self) (Nat.not_lt_zero _)
  | succ n ih =>
    intro F nd h
    have h1 : (F.erase n).Nodup := nd.erase n
    have h2 : ∀ x, x ∈ F.erase n → x < n := fun x hx => by
      have h3 := h x (List.mem_of_mem_erase hx)
      have h4 : x ≠ n := fun e => by
        subst e
        exact absurd hx (List.Nodup.not_mem_erase nd)
      omega
    have h3 := ih h1 h2
    have h4 : F.length ≤ (F.erase n).length + 1 := by
      rw [List.length_erase]
      split <;> omega
    omega
theorem rch_start {bs : List Belt} {n first : Nat} (h : first < n) : Rch bs n first [first] [first] :=
  ⟨by simp, fun x hx => by rw [List.mem_singleton.mp hx]; exact h, fun x hx => by rw [List.mem_singleton.mp hx]; exact .refl _, fun x hx => hx, List.mem_singleton.mpr rfl, fun x h1 h2 => absurd h1 h2⟩
theorem Rch.pop {bs : List Belt} {n first m wk : Nat} {F Td : List Nat} (R : Rch bs n first F (Td ++ [wk])) (hm : (Td ++ [wk]).length + 2 * n ≤ m + 2 * F.length) : Mid bs n first m wk F Td := by
  refine ⟨R.nd, R.lt, R.con, fun x hx => R.sub x (List.mem_append_left _ hx), R.fst, R.sub wk (List.mem_append_right _ (List.mem_singleton.mpr rfl)), fun x h1 h2 h3 => R.cl x h1 fun z => ?_, ?_⟩
  · rcases List.mem_append.mp z with z | z
    · exact h2 z
    · exact h3 (List.mem_singleton.mp z)
  · rw [List.length_append, List.length_singleton] at hm
    omega
theorem Mid.push {bs : List Belt} {n first m wk y : Nat} {F Td : List Nat} (M : Mid bs n first m wk F Td) (hy : y ∉ F) (hn : y < n) (he : Edge bs wk y) : Mid bs n first m wk (F ++ [y]) (Td ++ [y]) := by
  refine ⟨?_, fun x hx => ?_, fun x hx => ?_, fun x hx => ?_, List.mem_append_left _ M.fst, List.mem_append_left _ M.wkF, fun x h1 h2 h3 e hb => ?_, ?_⟩
  · rw [List.nodup_append]
    refine ⟨M.nd, by simp, fun a ha b hb => ?_⟩
    rw [List.mem_singleton.mp hb]
    exact fun z => hy (z ▸ ha)
  · rcases List.mem_append.mp hx with z | z
    · exact M.lt x z
    · rw [List.mem_singleton.mp z]; exact hn
  · rcases List.mem_append.mp hx with z | z
    · exact M.con x z
    · rw [List.mem_singleton.mp z]; exact .step (M.con wk M.wkF) he
  · rcases List.mem_append.mp hx with z | z
    · exact List.mem_append_left _ (M.sub x z)
    · exact List.mem_append_right _ z
  · have hxy : x ≠ y := fun z => h2 (List.mem_append_right _ (List.mem_singleton.mpr z))
    have hF : x ∈ F := (List.mem_append.mp h1).resolve_right fun z => hxy (List.mem_singleton.mp z)
    have k := M.cl x hF (fun z => h2 (List.mem_append_left _ z)) h3 e hb
    exact ⟨fun z => List.mem_append_left _ (k.1 z), fun z => List.mem_append_left _ (k.2 z)⟩
  · have := M.sz
    rw [List.length_append, List.length_append, List.length_singleton]
    omega
theorem Mid.fin {bs : List Belt} {n first m wk : Nat} {F Td : List Nat} (M : Mid bs n first m wk F Td) (h : ∀ e, e ∈ bs → (e.g = wk → e.t ∈ F) ∧ (e.t = wk → e.g ∈ F)) : Rch bs n first F Td ∧ Td.length + 2 * n < m + 2 * F.length := by
  refine ⟨⟨M.nd, M.lt, M.con, M.sub, M.fst, fun x h1 h2 e he => ?_⟩, M.sz⟩
  by_cases hx : x = wk
  · subst hx; exact h e he
  · exact M.cl x h1 h2 hx e he
theorem Rch.all {bs : List Belt} {n first : Nat} {F : List Nat} (R : Rch bs n first F []) : ∀ x, x ∈ F ↔ Conn bs first x := fun x => by
  refine ⟨R.con x, fun c => ?_⟩
  exact c.inv (P := fun y => y ∈ F) (fun e he => ⟨fun z => (R.cl e.g z (by simp) e he).1 rfl, fun z => (R.cl e.t z (by simp) e he).2 rfl⟩) R.fst
/-- numbers from 0 on that are rearranged -/
theorem perm_nat {ys : List Int} {F : List Nat} (h : ys.Perm (F.map fun n : Nat => (n : Int))) : ∃ L : List Nat, ys = L.map (fun n : Nat => (n : Int)) ∧ L.Perm F := by
  refine ⟨ys.map Int.toNat, ?_, ?_⟩
  · rw [List.map_map]
    have : ∀ y, y ∈ ys → ((fun n : Nat => (n : Int)) ∘ Int.toNat) y = y := fun y hy => by
      obtain ⟨n, _, rfl⟩ := List.mem_map.mp (h.mem_iff.mp hy)
      simp
    conv => lhs; rw [← List.map_id ys]
    exact (List.map_congr_left fun y hy => (this y hy)).symm
  · have e := h.map Int.toNat
    rw [List.map_map] at e
    have e2 : F.map (Int.toNat ∘ fun n : Nat => (n : Int)) = F := by
      conv => rhs; rw [← List.map_id F]
      exact List.map_congr_left fun n _ => by simp
    rw [e2] at e
    exact e
/-! ### the pieces -/
/-- the pieces found when the works below k were looked at -/
structure Pcs (bs : List Belt) (n k : Nat) (Ls : List (List Nat)) : Prop where
  nd : ∀ L, L ∈ Ls → L.Nodup
  lt : ∀ L, L ∈ Ls → ∀ x, x ∈ L → x < n
  cn : ∀ L, L ∈ Ls → ∃ f, f ∈ L ∧ ∀ x, x ∈ L ↔ Conn bs f x
  cov : ∀ x, x < k → ∃ L, L ∈ Ls ∧ x ∈ L
  dis : ∀ (i j : Nat) (L M : List Nat), Ls[i]? = some L → Ls[j]? = some M → i < j → ∀ x, x ∈ L → x ∉ M
theorem Pcs.nil (bs : List Belt) (n : Nat) : Pcs bs n 0 [] := ⟨fun L h => by simp at h, fun L h => by simp at h, fun L h => by simp at h, fun x h => absurd h (Nat.not_lt_zero _), fun i j L M h => by simp at h⟩
theorem Pcs.cn' {bs : List Belt} {n k : Nat} {Ls : List (List Nat)} (P : Pcs bs n k Ls) {L : List Nat} (h : L ∈ Ls) {f : Nat} (hf : f ∈ L) : ∀ x, x ∈ L ↔ Conn bs f x := by
  obtain ⟨f0, h0, h1⟩ := P.cn L h
  intro x
  have c := (h1 f).mp hf
  rw [h1 x]
  exact ⟨fun z => c.symm.trans z, fun z => c.trans z⟩
/-- a work that was seen -/
theorem Pcs.old {bs : List Belt} {n k : Nat} {Ls : List (List Nat)} (P : Pcs bs n k Ls) (h : ∃ L, L ∈ Ls ∧ k ∈ L) : Pcs bs n (k + 1) Ls :=
  ⟨P.nd, P.lt, P.cn, fun x hx => (Nat.lt_succ_iff_lt_or_eq.mp hx).elim (P.cov x) fun e => e ▸ h, P.dis⟩
theorem Pcs.new {bs : List Belt} {n k : Nat} {Ls : List (List Nat)} {M : List Nat} (P : Pcs bs n k Ls) (h : ¬ ∃ L, L ∈ Ls ∧ k ∈ L) (h1 : M.Nodup) (h2 : ∀ x, x ∈ M ↔ Conn bs k x) (h3 : ∀ x, x ∈ M → x < n) : Pcs bs n (k + 1) (Ls ++ [M]) := by
  refine ⟨fun L hL => ?_, fun L hL => ?_, fun L hL => ?_, fun x hx => ?_, fun i j A B hA hB hij x hx => ?_⟩
  · rcases List.mem_append.mp hL with z | z
    · exact P.nd L z
    · rw [List.mem_singleton.mp z]; exact h1
  · rcases List.mem_append.mp hL with z | z
    · exact P.lt L z
    · rw [List.mem_singleton.mp z]; exact h3
  · rcases List.mem_append.mp hL with z | z
    · exact P.cn L z
    · rw [List.mem_singleton.mp z]; exact ⟨k, (h2 k).mpr (.refl k), h2⟩
  · rcases Nat.lt_succ_iff_lt_or_eq.mp hx with z | z
    · obtain ⟨L, a, b⟩ := P.cov x z
      exact ⟨L, List.mem_append_left _ a, b⟩
    · subst z
      exact ⟨M, List.mem_append_right _ (List.mem_singleton.mpr rfl), (h2 x).mpr (.refl x)⟩
  · by_cases hj : j < Ls.length
    · rw [List.getElem?_append_left (by omega)] at hA
      rw [List.getElem?_append_left hj] at hB
      exact P.dis i j A B hA hB hij x hx
    · have hjl := (List.getElem?_eq_some_iff.mp hB).1
      rw [List.length_append, List.length_singleton] at hjl
      have ej : j = Ls.length := by omega
      subst ej
      rw [List.getElem?_append_left hij] at hA
      rw [List.getElem?_append_right (Nat.le_refl _), Nat.sub_self] at hB
      have eB : M = B := Option.some.inj hB
      subst eB
      have hAm : A ∈ Ls := List.mem_of_getElem? hA
      intro hxM
      exact h ⟨A, hAm, (P.cn' hAm hx k).mpr ((h2 x).mp hxM).symm⟩
end RH
/-! The layer of this law: how defs are said, heaps, values, a few rules. -/
namespace RH
open PySem PySem.Spec PyProof.Rows L2
/-! ### a def that keeps its promise, as a caller wants it -/
section
variable (P : Program) (w : World) (K : PySem.W.Frag) (mg : Str → Option Value) (base : Heap)
def Okf (k : Nat) (f : Addr) (ps : List Str) (sp : Sp) : Prop := ∃ fd, FnOk P w K mg base CX0 k f fd ps sp ∧ PySem.W.keepIn K (.ref f) = true ∧ Binds K fd ps []
end
section
variable {P : Program} {w : World} {K : PySem.W.Frag} {mg : Str → Option Value} {base : Heap}
theorem okf_of {x qual : Str} {pa : Arguments} {bd : List Stmt} {sc : Scope} {f : Addr} {N ps : List Str} {k : Nat} {sp : Sp} (F : ∃ fd, FunD K x qual pa bd sc [] [] f fd) (S : FnScope N ps sc)
    (hb : ∀ (kV doc pm : Value) (an : Option Addr) (cdv ct : Value) (us : List Value), us.length = ps.length → bindArgs (PySem.W.fnOf x qual pa bd sc .none kV doc pm an cdv ct) ⟨us, []⟩ = pure (ps.zip us))
    (len : ∀ vs H Q E, sp vs H Q E → vs.length = ps.length)
    (body : ∀ (cdv : Value) (A : Around) (outer : List Env) (s : Shared) (H : Hp) (vs : List V) (Q : VK) (E : XK), Room k (A.deeper (envOfC qual sc s.heap.objs.size f cdv)) → sp vs H Q E →
      ∃ t, PSs (cxOf CX0 P w K mg base N qual sc f cdv A outer s H E).nox bd t ∧ t { nx := fun _ H' => Q .non H', rt := Q } (start N vs) H) : Okf P w K mg base (k + 1) f ps sp := by
  obtain ⟨fd, F⟩ := F
  refine ⟨fd, F.ok S len fun cdv A outer s H vs Q E hr h => ?_, F.kp, F.bindsN hb⟩
  obtain ⟨t, h1, h2⟩ := body cdv A outer s H vs Q E hr h
  exact ⟨t, h1.nox, h2⟩
theorem Okf.mono {j k : Nat} {f : Addr} {ps : List Str} {sp : Sp} (G : Okf P w K mg base j f ps sp) (h : j ≤ k) : Okf P w K mg base k f ps sp :=
  let ⟨fd, G, kp, b⟩ := G; ⟨fd, G.mono h, kp, b⟩
end
/-! ### values -/
abbrev nV (n : Nat) : V := .int (n : Int)
def nVs (ns : List Nat) : List V := ns.map nV
theorem nVs_eq (ns : List Nat) : nVs ns = (ns.map fun n : Nat => (n : Int)).map V.int := by
  unfold nVs
  rw [List.map_map]
  rfl
theorem nVs_at {ns : List Nat} {i x : Nat} (h : ns[i]? = some x) : (nVs ns)[i]? = some (nV x) := by
  unfold nVs
  rw [List.getElem?_map, h]
  rfl
theorem of_nVs {ns : List Nat} {i : Nat} {v : V} (h : (nVs ns)[i]? = some v) : ∃ x, ns[i]? = some x ∧ v = nV x := by
  unfold nVs at h
  rw [List.getElem?_map] at h
  cases e : ns[i]? with
  | none => rw [e] at h; cases h
  | some x => rw [e] at h; exact ⟨x, rfl, (Option.some.inj h).symm⟩
theorem nVs_len (ns : List Nat) : (nVs ns).length = ns.length := by unfold nVs; rw [List.length_map]
theorem nVs_nth {ns : List Nat} {i : Nat} (h : i < ns.length) : (nVs ns)[i]? = some (nV (nth ns i)) := nVs_at (of_nth h)
theorem nV_inj {a b : Nat} (h : nV a = nV b) : a = b := by
  have e := V.int.inj h
  omega
theorem nV_eq {a b : Nat} : decide (nV a = nV b) = decide (a = b) := by
  by_cases h : a = b
  · subst h; simp
  · rw [decide_eq_false h, decide_eq_false fun e => h (nV_inj e)]
/-- a pair of numbers -/
def pV (x : Nat × Nat) : List V := [nV x.1, nV x.2]
/-- a belt -/
def bV (b : Belt) : List V := [nV b.g, nV b.t, nV b.gv, nV b.tk, nV b.st]
def rV (as : List Addr) : List V := as.map V.ref
theorem rV_at {as : List Addr} {i : Nat} {a : Addr} (h : as[i]? = some a) : (rV as)[i]? = some (.ref a) := by
  unfold rV
  rw [List.getElem?_map, h]
  rfl
theorem of_rV {as : List Addr} {i : Nat} {v : V} (h : (rV as)[i]? = some v) : ∃ a, as[i]? = some a ∧ v = .ref a := by
  unfold rV at h
  rw [List.getElem?_map] at h
  cases e : as[i]? with
  | none => rw [e] at h; cases h
  | some x => rw [e] at h; exact ⟨x, rfl, (Option.some.inj h).symm⟩
theorem rV_len (as : List Addr) : (rV as).length = as.length := by unfold rV; rw [List.length_map]
theorem small_line {n : Nat} (h : n ≤ 100000) : n ≤ sizeLine := Nat.le_trans h (by decide)
theorem small_line' {n : Nat} (h : n < 100000) : n < sizeLine := Nat.lt_of_lt_of_le h (by decide)
/-! ### heaps: what is kept while the objects at S may change -/
structure Fr (S : List Addr) (H H' : Hp) : Prop where
  kp : ∀ b o, H b = some o → b ∉ S → H' b = some o
  tp : ∀ b xs, H b = some (.tup xs) → H' b = some (.tup xs)
  th : ∀ b o, H b = some o → ∃ o', H' b = some o'
section
variable {S S' : List Addr} {H H1 H2 : Hp} {a : Addr} {o : HO} {xs : List V}
theorem Fr.refl (S : List Addr) (H : Hp) : Fr S H H := ⟨fun _ _ h _ => h, fun _ _ h => h, fun _ o h => ⟨o, h⟩⟩
theorem Fr.trans (x : Fr S H H1) (y : Fr S H1 H2) : Fr S H H2 :=
  ⟨fun b o h n => y.kp b o (x.kp b o h n) n, fun b xs h => y.tp b xs (x.tp b xs h), fun b o h => let ⟨o', h'⟩ := x.th b o h; y.th b o' h'⟩
theorem Fr.mono (x : Fr S H H1) (h : ∀ b, b ∈ S → b ∈ S') : Fr S' H H1 := ⟨fun b o e n => x.kp b o e fun z => n (h b z), x.tp, x.th⟩
theorem Fr.nil (x : Fr [] H H1) : Fr S H H1 := x.mono fun b h => by cases h
theorem Fr.free (x : Fr S H H1) (h : H1 a = none) : H a = none := by
  cases e : H a with
  | none => rfl
  | some o =>
    obtain ⟨o', e'⟩ := x.th a o e
    rw [h] at e'
    cases e'
/-- behind it a new object is made -/
theorem Fr.new (x : Fr S H H1) (h : H1 a = none) : Fr S H (upd H1 a o) := by
  refine ⟨fun b u e n => ?_, fun b ys e => ?_, fun b u e => ?_⟩
  · have e1 := x.kp b u e n
    rw [upd_ne (ne_of_none e1 h)]; exact e1
  · have e1 := x.tp b ys e
    rw [upd_ne (ne_of_none e1 h)]; exact e1
  · obtain ⟨u', e1⟩ := x.th b u e
    exact ⟨u', by rw [upd_ne (ne_of_none e1 h)]; exact e1⟩
/-- an object of S, or one that was not there, is changed -/
theorem Fr.mut (x : Fr S H H1) (hs : a ∈ S ∨ H a = none) (ht : ∀ ys, H1 a ≠ some (.tup ys)) : Fr S H (upd H1 a o) := by
  refine ⟨fun b u e n => ?_, fun b ys e => ?_, fun b u e => ?_⟩
  · have nb : b ≠ a := fun z => by
      subst z
      rcases hs with z | z
      · exact n z
      · rw [z] at e; cases e
    rw [upd_ne nb]; exact x.kp b u e n
  · have e1 := x.tp b ys e
    have nb : b ≠ a := fun z => by subst z; exact ht ys e1
    rw [upd_ne nb]; exact e1
  · by_cases z : b = a
    · exact ⟨o, by rw [z, upd_same]⟩
    · obtain ⟨u', e1⟩ := x.th b u e
      exact ⟨u', by rw [upd_ne z]; exact e1⟩
theorem Fr.mutL (x : Fr S H H1) (hs : a ∈ S ∨ H a = none) (h : H1 a = some (.lst xs)) : Fr S H (upd H1 a o) := x.mut hs fun ys e => by rw [h] at e; cases e
theorem Fr.mutI {C dx : Addr} {fs : List (Str × V)} (x : Fr S H H1) (hs : a ∈ S ∨ H a = none) (h : H1 a = some (.ins C dx fs)) : Fr S H (upd H1 a o) := x.mut hs fun ys e => by rw [h] at e; cases e
theorem Fr.mutD {kvs : List (Key × V)} (x : Fr S H H1) (hs : a ∈ S ∨ H a = none) (h : H1 a = some (.dK kvs)) : Fr S H (upd H1 a o) := x.mut hs fun ys e => by rw [h] at e; cases e
/-- what was not there is no part of what may change -/
theorem Fr.shrink (x : Fr S H H1) (h : ∀ b, b ∈ S → b ∈ S' ∨ H b = none) : Fr S' H H1 :=
  ⟨fun b o e n => x.kp b o e fun z => (h b z).elim n fun y => (by rw [y] at e; cases e), x.tp, x.th⟩
theorem Fr.ex (x : Fr [] H H1) : Evl.Ex H H1 := fun b o h => x.kp b o h (by simp)
theorem Fr.of_ex (x : Evl.Ex H H1) : Fr [] H H1 := ⟨fun b o h _ => x b o h, fun b xs h => x b _ h, fun b o h => ⟨o, x b o h⟩⟩
theorem Fr.at_ (x : Fr [] H H1) {b : Addr} {u : HO} (h : H b = some u) : H1 b = some u := x.kp b u h (by simp)
theorem Fr.n0 (h : H a = none) : Fr [] H (upd H a o) := (Fr.refl [] H).new h
theorem Fr.sq {K : PySem.W.Frag} (x : Fr [] H H1) (h : SqL K H a xs) : SqL K H1 a xs := Evl.ex_l x.ex h
end
/-- a call that hands back a new list, a new tuple, a value -/
def RL (xs : List V) (H : Hp) (Q : VK) : Prop := ∀ p H', H p = none → Fr [] H H' → H' p = some (.lst xs) → Q (.ref p) H'
def RT (xs : List V) (H : Hp) (Q : VK) : Prop := ∀ p H', H p = none → Fr [] H H' → H' p = some (.tup xs) → Q (.ref p) H'
def RV (v : V) (H : Hp) (Q : VK) : Prop := ∀ H', Fr [] H H' → Q v H'
theorem RL.go {xs : List V} {H H1 H2 : Hp} {Q : VK} {p : Addr} (q : RL xs H Q) (x : Fr [] H H1) (hp : H1 p = none) (y : Fr [] H1 H2) (h : H2 p = some (.lst xs)) : Q (.ref p) H2 := q p H2 (x.free hp) (x.trans y) h
/-! ### tuples at addresses -/
def Tups (H : Hp) (as : List Addr) (bs : List Belt) : Prop := as.length = bs.length ∧ ∀ (i : Nat) (a : Addr) (b : Belt), as[i]? = some a → bs[i]? = some b → H a = some (.tup (bV b))
theorem Tups.mono {S : List Addr} {H H' : Hp} {as : List Addr} {bs : List Belt} (h : Tups H as bs) (x : Fr S H H') : Tups H' as bs := ⟨h.1, fun i a b h1 h2 => x.tp a _ (h.2 i a b h1 h2)⟩
theorem Tups.at_ {H : Hp} {as : List Addr} {bs : List Belt} (h : Tups H as bs) {i : Nat} {a : Addr} (e : as[i]? = some a) : ∃ b, bs[i]? = some b ∧ H a = some (.tup (bV b)) := by
  have hi := (List.getElem?_eq_some_iff.mp e).1
  obtain ⟨b, hb⟩ : ∃ b, bs[i]? = some b := ⟨bs[i]'(by have := h.1; omega), List.getElem?_eq_getElem _⟩
  exact ⟨b, hb, h.2 i a b e hb⟩
theorem Tups.get {H : Hp} {as : List Addr} {bs : List Belt} (h : Tups H as bs) {i : Nat} {b : Belt} (e : bs[i]? = some b) : ∃ a, as[i]? = some a ∧ H a = some (.tup (bV b)) := by
  have hi := (List.getElem?_eq_some_iff.mp e).1
  obtain ⟨a, ha⟩ : ∃ a, as[i]? = some a := ⟨as[i]'(by have := h.1; omega), List.getElem?_eq_getElem _⟩
  exact ⟨a, ha, h.2 i a b ha e⟩
theorem Tups.snoc {H : Hp} {as : List Addr} {bs : List Belt} (h : Tups H as bs) {a : Addr} {b : Belt} (e : H a = some (.tup (bV b))) : Tups H (as ++ [a]) (bs ++ [b]) := by
  refine ⟨by rw [List.length_append, List.length_append, h.1]; rfl, fun i c d h1 h2 => ?_⟩
  by_cases hi : i < as.length
  · rw [List.getElem?_append_left hi] at h1
    rw [List.getElem?_append_left (by have := h.1; omega)] at h2
    exact h.2 i c d h1 h2
  · have hl := h.1
    rw [List.getElem?_append_right (by omega)] at h1
    rw [List.getElem?_append_right (by omega)] at h2
    have k : i - as.length = 0 := by
      have := (List.getElem?_eq_some_iff.mp h1).1
      simp at this
      omega
    rw [k] at h1
    rw [show i - bs.length = 0 by omega] at h2
    have e1 : a = c := Option.some.inj h1
    have e2 : b = d := Option.some.inj h2
    rw [← e1, ← e2]
    exact e
/-- a list of belts at an address -/
def Bls (H : Hp) (l : Addr) (bs : List Belt) : Prop := ∃ as, H l = some (.lst (rV as)) ∧ Tups H as bs
theorem Bls.kept {S : List Addr} {H H' : Hp} {l : Addr} {bs : List Belt} (h : Bls H l bs) (x : Fr S H H') (hl : l ∉ S) : Bls H' l bs :=
  let ⟨as, h1, h2⟩ := h; ⟨as, x.kp l _ h1 hl, h2.mono x⟩
/-! ### fields -/
theorem putF_nil (f : Str) (v : V) : putF f v [] = [(f, v)] := rfl
theorem putF_eq (f : Str) (v x : V) (r : List (Str × V)) : putF f v ((f, x) :: r) = (f, v) :: r := by
  show (if f = f then _ else _) = _
  rw [if_pos rfl]
theorem putF_ne {f g : Str} (h : g ≠ f) (v x : V) (r : List (Str × V)) : putF f v ((g, x) :: r) = (g, x) :: putF f v r := by
  show (if g = f then _ else _) = _
  rw [if_neg h]
theorem look_eq (f : Str) (v : V) (r : List (Str × V)) : List.lookup f ((f, v) :: r) = some v := by
  simp [List.lookup]
theorem look_ne {f g : Str} (h : g ≠ f) (v : V) (r : List (Str × V)) : List.lookup g ((f, v) :: r) = List.lookup g r := by
  have e : (g == f) = false := by simpa using h
  simp [List.lookup, e]
theorem look_nil (f : Str) : List.lookup f ([] : List (Str × V)) = none := rfl
/-! ### rules of our own -/
section
variable {X : Cx}
/-- * of numbers of together less than a hundred million bits -/
def CBits (i j : Int) : Prop := Builtin.Int.intBits i + Builtin.Int.intBits j ≤ 134217728
theorem op_mulB : OpR X (binaryOp .Mult) (rI CBits fun i j => .int (i * j)) := opI fun i j _ _ _ _ _ hc q => mul_int q (by
  unfold IntMulOk
  intro z
  have hc' : Builtin.Int.intBits i + Builtin.Int.intBits j ≤ 134217728 := hc
  have z2 := (Bool.and_eq_true_iff.mp z).2
  unfold Builtin.Int.intTooBig at z2
  have z3 := of_decide_eq_true z2
  rw [show bitsLine = 134217728 by decide] at z3
  omega)
end
/-! ### what evaluates to what (over Evl) -/
section
open Evl
variable {K : PySem.W.Frag} {σ : L2.St} {H : Hp} {ta tb te : TE} {v : V}
theorem ev_ixT {p : Addr} {xs : List V} {j : Nat} (h : Ev ta σ H (.ref p)) (hp : H p = some (.tup xs)) (hv : xs[j]? = some v) : Ev (tOp (rIxT K) ta (tC (.int (j : Int)))) σ H v := ev_op h ev_c (rv_ixT (st_of hp) (atI_nat hv))
theorem ev_ixL {p : Addr} {xs : List V} {j : Nat} (h : Ev ta σ H (.ref p)) (hi : Ev tb σ H (nV j)) (hp : H p = some (.lst xs)) (hv : xs[j]? = some v) : Ev (tOp (rIxL K) ta tb) σ H v := ev_op h hi (rv_ixL (sq_of hp) (atI_nat hv))
theorem ev_fld {a C dx : Addr} {fs : List (Str × V)} {f : Str} (h : Ev ta σ H (.ref a)) (hp : H a = some (.ins C dx fs)) (hc : Cls K C) (hn : NoAttr K C f) (hv : fs.lookup f = some v) : Ev (tFld K ta f) σ H v := fun H1 e Q q =>
  h H1 e _ fun H2 e2 => ⟨a, C, dx, fs, v, rfl, e2 a _ (e a _ hp), hc, hn, hv, q H2 e2⟩
theorem et_eqN {a b : Nat} (h1 : Ev ta σ H (nV a)) (h2 : Ev tb σ H (nV b)) : EvT (tTest (tOp rEq ta tb)) σ H (decide (a = b)) := et_test (ev_is (ev_op h1 h2 (rv_eq rfl)) (by rw [nV_eq]))
theorem et_neN {a b : Nat} (h1 : Ev ta σ H (nV a)) (h2 : Ev tb σ H (nV b)) : EvT (tTest (tOp rNe ta tb)) σ H (!decide (a = b)) := et_test (ev_is (ev_op h1 h2 (rv_ne rfl)) (by rw [nV_eq]))
theorem et_ltI {a b : Int} (h1 : Ev ta σ H (.int a)) (h2 : Ev tb σ H (.int b)) : EvT (tTest (tOp (rI0 fun i j => .bl (decide (i < j))) ta tb)) σ H (decide (a < b)) := et_test (ev_op h1 h2 (rv_I0 (g := fun i j => .bl (decide (i < j)))))
theorem et_gtI {a b : Int} (h1 : Ev ta σ H (.int a)) (h2 : Ev tb σ H (.int b)) : EvT (tTest (tOp (rI0 fun i j => .bl (decide (j < i))) ta tb)) σ H (decide (b < a)) := et_test (ev_op h1 h2 (rv_I0 (g := fun i j => .bl (decide (j < i)))))
theorem et_geI {a b : Int} (h1 : Ev ta σ H (.int a)) (h2 : Ev tb σ H (.int b)) : EvT (tTest (tOp (rI0 fun i j => .bl (decide (j ≤ i))) ta tb)) σ H (decide (b ≤ a)) := et_test (ev_op h1 h2 (rv_I0 (g := fun i j => .bl (decide (j ≤ i)))))
theorem ev_add {a b : Int} (h1 : Ev ta σ H (.int a)) (h2 : Ev tb σ H (.int b)) : Ev (tOp (rI0 fun i j => .int (i + j)) ta tb) σ H (.int (a + b)) := ev_op h1 h2 (rv_I0 (g := fun i j => .int (i + j)))
theorem ev_sub {a b : Int} (h1 : Ev ta σ H (.int a)) (h2 : Ev tb σ H (.int b)) : Ev (tOp (rI0 fun i j => .int (i - j)) ta tb) σ H (.int (a - b)) := ev_op h1 h2 (rv_I0 (g := fun i j => .int (i - j)))
theorem ev_lenL {p : Addr} {xs : List V} (h : Ev ta σ H (.ref p)) (hp : H p = some (.lst xs)) : Ev (tCB (rLenS K) (tCons ta tNil)) σ H (.int (xs.length : Int)) := ev_len h (sq_of hp)
end
/-! ### statements over Evl -/
section
open Evl
variable {K : PySem.W.Frag} {σ : L2.St} {H : Hp} {ta tb te : TE} {v : V} {D : Ends} {tz : TS}
/-- self.f = a new list -/
theorem s_fldL {i : Nat} {p C dx : Addr} {fs : List (Str × V)} {f : Str} {xs : List V} (h : EvL te σ H xs) (hσ : σ[i]? = some (some (.ref p))) (hp : H p = some (.ins C dx fs)) (hc : Cls K C) (hn : NoAttr K C f) (hl : fs.length < 1000)
    (k : ∀ l H1, H l = none → Fr [] H H1 → H1 l = some (.lst xs) → H1 p = some (.ins C dx fs) → D.nx σ (upd H1 p (.ins C dx (putF f (.ref l) fs)))) : sFld K (tVar i) te f D σ H :=
  h H (Ex.refl H) _ fun l H1 h1 e h2 => ⟨_, hσ, p, C, dx, fs, rfl, e _ _ hp, hc, hn, hl, k l H1 h1 (.of_ex e) h2 (e _ _ hp)⟩
theorem s_fldV {i : Nat} {p C dx : Addr} {fs : List (Str × V)} {f : Str} (h : Ev te σ H v) (hσ : σ[i]? = some (some (.ref p))) (hp : H p = some (.ins C dx fs)) (hc : Cls K C) (hn : NoAttr K C f) (hl : fs.length < 1000)
    (k : ∀ H1, Fr [] H H1 → H1 p = some (.ins C dx fs) → D.nx σ (upd H1 p (.ins C dx (putF f v fs)))) : sFld K (tVar i) te f D σ H :=
  h H (Ex.refl H) _ fun H1 e => ⟨_, hσ, p, C, dx, fs, rfl, e _ _ hp, hc, hn, hl, k H1 (.of_ex e) (e _ _ hp)⟩
theorem q_fldL {i : Nat} {p C dx : Addr} {fs : List (Str × V)} {f : Str} {xs : List V} (h : EvL te σ H xs) (hσ : σ[i]? = some (some (.ref p))) (hp : H p = some (.ins C dx fs)) (hc : Cls K C) (hn : NoAttr K C f) (hl : fs.length < 1000)
    (k : ∀ l H1, H l = none → Fr [] H H1 → H1 l = some (.lst xs) → H1 p = some (.ins C dx fs) → tz D σ (upd H1 p (.ins C dx (putF f (.ref l) fs)))) : tSeq (sFld K (tVar i) te f) tz D σ H := s_fldL (D := { D with nx := tz D }) h hσ hp hc hn hl k
theorem q_fldV {i : Nat} {p C dx : Addr} {fs : List (Str × V)} {f : Str} (h : Ev te σ H v) (hσ : σ[i]? = some (some (.ref p))) (hp : H p = some (.ins C dx fs)) (hc : Cls K C) (hn : NoAttr K C f) (hl : fs.length < 1000)
    (k : ∀ H1, Fr [] H H1 → H1 p = some (.ins C dx fs) → tz D σ (upd H1 p (.ins C dx (putF f v fs)))) : tSeq (sFld K (tVar i) te f) tz D σ H := s_fldV (D := { D with nx := tz D }) h hσ hp hc hn hl k
end
/-- for x in range(n) -/
theorem for_rangeN {n : Nat} {g : TG} {tb : TS} {D : Ends} {σ : L2.St} {H : Hp} (Pv : Nat → L2.St → Hp → Prop) (h0 : Pv 0 σ H)
    (hs : ∀ i σ H, i < n → Pv i σ H → g (nV i) σ H fun σ2 H2 => tb { D with nx := Pv (i + 1), ct := Pv (i + 1), bk := D.nx } σ2 H2) (hd : ∀ σ H, Pv n σ H → D.nx σ H) :
    ∃ W : Nat → Nat → L2.St → Hp → Prop, (∃ m, W 0 m σ H) ∧ ∀ i m σ H, W i m σ H →
      ((Itr 0 n).stop i H ∧ D.nx σ H) ∨ ((Itr 0 n).go i H ∧ ∃ N : L2.St → Hp → Prop, (∀ σ' H', N σ' H' → ∃ m', m' < m ∧ W (i + 1) m' σ' H') ∧ ∀ x H', (Itr 0 n).yld i H x H' → g x σ H' fun σ2 H2 => tb { D with nx := N, ct := N, bk := D.nx } σ2 H2) :=
  for_range (lo := 0) (n := n) Pv h0 (fun i σ H hi p => by
    have e : V.int (0 + (i : Int)) = nV i := congrArg V.int (Int.zero_add _)
    rw [e]
    exact hs i σ H hi p) hd
theorem lc_rangeN {n : Nat} {g : TG} {tt : TT} {te : TE} {vs : List Nat} {σ : L2.St} {H1 : Hp} {D : Addr} {Qd : Hp → Prop} (Pv : Nat → Hp → Prop) (h0 : Pv 0 (upd H1 D (.lst [])))
    (hs : ∀ i H, i < n → Pv i H → g (nV i) (wipe σ vs) H fun σ2 H2 => wipe σ2 vs = wipe σ vs ∧ tt σ2 H2 fun b H3 =>
      if b = true then te σ2 H3 fun y H4 => ∃ acc, H4 D = some (.lst acc) ∧ acc.length < sizeLine ∧ Pv (i + 1) (upd H4 D (.lst (acc ++ [y]))) else Pv (i + 1) H3) (hd : ∀ H, Pv n H → Qd H) :
    ∃ W : Nat → Nat → Hp → Prop, (∃ m, W 0 m (upd H1 D (.lst []))) ∧ ∀ i m H, W i m H →
      ((Itr 0 n).stop i H ∧ Qd H) ∨ ((Itr 0 n).go i H ∧ ∃ Nx : Hp → Prop, (∀ H', Nx H' → ∃ m', m' < m ∧ W (i + 1) m' H') ∧ ∀ x H', (Itr 0 n).yld i H x H' → g x (wipe σ vs) H' fun σ2 H2 => wipe σ2 vs = wipe σ vs ∧ tt σ2 H2 fun b H3 =>
        if b = true then te σ2 H3 fun y H4 => ∃ acc, H4 D = some (.lst acc) ∧ acc.length < sizeLine ∧ Nx (upd H4 D (.lst (acc ++ [y]))) else Nx H3) :=
  lc_range (lo := 0) (n := n) Pv h0 (fun i H hi p => by
    have e : V.int (0 + (i : Int)) = nV i := congrArg V.int (Int.zero_add _)
    rw [e]
    exact hs i H hi p) hd
/-! ### a comprehension over the signs of a text -/
theorem lc_signs {x : Str} {g : TG} {tt : TT} {te : TE} {vs : List Nat} {σ : L2.St} {H1 : Hp} {D : Addr} {Qd : Hp → Prop} (Pv : Nat → Hp → Prop) (h0 : Pv 0 (upd H1 D (.lst [])))
    (hs : ∀ (i : Nat) (c : Nat) H, x.cps[i]? = some c → Pv i H → g (.str ⟨#[c]⟩) (wipe σ vs) H fun σ2 H2 => wipe σ2 vs = wipe σ vs ∧ tt σ2 H2 fun b H3 =>
      if b = true then te σ2 H3 fun y H4 => ∃ acc, H4 D = some (.lst acc) ∧ acc.length < sizeLine ∧ Pv (i + 1) (upd H4 D (.lst (acc ++ [y]))) else Pv (i + 1) H3) (hd : ∀ H, Pv x.cps.size H → Qd H) :
    ∃ W : Nat → Nat → Hp → Prop, (∃ m, W 0 m (upd H1 D (.lst []))) ∧ ∀ i m H, W i m H →
      ((Its x).stop i H ∧ Qd H) ∨ ((Its x).go i H ∧ ∃ Nx : Hp → Prop, (∀ H', Nx H' → ∃ m', m' < m ∧ W (i + 1) m' H') ∧ ∀ v H', (Its x).yld i H v H' → g v (wipe σ vs) H' fun σ2 H2 => wipe σ2 vs = wipe σ vs ∧ tt σ2 H2 fun b H3 =>
        if b = true then te σ2 H3 fun y H4 => ∃ acc, H4 D = some (.lst acc) ∧ acc.length < sizeLine ∧ Nx (upd H4 D (.lst (acc ++ [y]))) else Nx H3) := by
  refine ⟨fun i m H => m = x.cps.size - i ∧ i ≤ x.cps.size ∧ Pv i H, ⟨_, rfl, Nat.zero_le _, h0⟩, ?_⟩
  rintro i m H ⟨rfl, hi, p⟩
  by_cases hlt : i < x.cps.size
  · refine .inr ⟨hlt, Pv (i + 1), fun H' p' => ⟨x.cps.size - (i + 1), by omega, rfl, hlt, p'⟩, fun v H' y => ?_⟩
    obtain ⟨e, c, hc, ev⟩ := y
    subst e
    subst ev
    exact hs i c _ hc p
  · have e : i = x.cps.size := by omega
    subst e
    exact .inl ⟨Nat.le_refl _, hd H p⟩
end RH
/-! divisor, multiple, ratio, times; the law's own divisor. -/
namespace RH
open PySem PySem.Spec PyProof.Rows L2
section
variable {P : Program} {w : World} {K : PySem.W.Frag} {mg : Str → Option Value} {base : Heap}
/-! ### divisor -/
def spDiv : Sp := fun vs H Q _ => ∃ a b : Nat, vs = [nV a, nV b] ∧ Q (nV (Nat.gcd a b)) H
theorem sc_divisor : FnScope ["one", "other"] ["one", "other"] (defScope s_divisor) := ⟨rfl, rfl, rfl, by decide +kernel, rfl, by decide +kernel, by decide +kernel⟩
theorem nat_emod (a b : Nat) : ((a : Int) % (b : Int)) = ((a % b : Nat) : Int) := (Int.natCast_emod a b).symm
theorem ok_divisor (T : Tx K mg) : Okf P w K mg base 1 (He.ga K "divisor") ["one", "other"] spDiv := by
  refine okf_of T.df_divisor sc_divisor (fun _ _ _ _ _ _ us hl => match us, hl with | [_, _], _ => rfl) (fun vs H Q E h => ?_) (fun cdv A outer s H vs Q E hr h => ?_)
  · obtain ⟨a, b, rfl, _⟩ := h
    rfl
  · obtain ⟨a, b, rfl, q⟩ := h
    refine ⟨_, pss_cons (ps_while PassesOwn.never (pt_cmpR op_ne (pv 1) pe_int (nomark _))
        (pss_one (ps_par (i := 0) (j := 1) (by rfl) sc_divisor.nd rfl rfl (by decide) rfl rfl (pa_cons (pv 1) (pa_cons (pe_op op_mod (pv 0) (pv 1)) pa_nil)) (by rfl))))
      (pss_one (ps_ret (pv 0))), ?_⟩
    refine ⟨fun m σ H' => ∃ x y : Nat, σ = [some (nV x), some (nV y)] ∧ H' = H ∧ y = m ∧ Nat.gcd x y = Nat.gcd a b, ⟨b, a, b, rfl, rfl, rfl, rfl⟩, ?_⟩
    rintro m σ H' ⟨x, y, rfl, rfl, rfl, hg⟩
    refine ⟨_, rfl, rfl, _, rfl, ite2 (fun hne => ?_) (fun he => ?_)⟩
    · have hy : 0 < y := by
        rcases Nat.eq_zero_or_pos y with e | e
        · subst e
          simp at hne
        · exact e
      refine ⟨fun σ' H'' => ∃ x' y' : Nat, σ' = [some (nV x'), some (nV y')] ∧ H'' = H' ∧ y' < y ∧ Nat.gcd x' y' = Nat.gcd a b, fun σ' H'' hN => ?_, ?_⟩
      · obtain ⟨x', y', e1, e2, e3, e4⟩ := hN
        exact ⟨y', e3, x', y', e1, e2, rfl, e4⟩
      · refine ⟨_, rfl, _, rfl, _, rfl, _, _, rfl, rfl, (by show (0 : Int) < (y : Int); omega), _, _, rfl, y, x % y, ?_, rfl, Nat.mod_lt _ hy, ?_⟩
        · show [some (nV y), some (V.int ((x : Int) % (y : Int)))] = _
          rw [nat_emod]
        · rw [← hg, Nat.gcd_comm x y, Nat.gcd_rec y x, Nat.gcd_comm]
    · have hy : y = 0 := by
        rw [dec_int] at he
        simp at he
        exact he
      subst hy
      refine ⟨_, rfl, ?_⟩
      rw [← hg, Nat.gcd_zero_right] at q
      exact q
/-! ### multiple -/
theorem log2_small {n : Nat} {b : Nat} (h : n < 2 ^ b) (h0 : 0 < b) : n.log2 < b := PySem.Flt.log2_lt_of h0 h
theorem nat_ediv (a b : Nat) : ((a : Int) / (b : Int)) = ((a / b : Nat) : Int) := (Int.natCast_ediv a b).symm
def spMul : Sp := fun vs H Q _ => ∃ a b : Nat, vs = [nV a, nV b] ∧ 0 < a ∧ a < 2 ^ 60 ∧ b < 2 ^ 60 ∧ Q (nV (Nat.lcm a b)) H
theorem sc_multiple : FnScope ["one", "other"] ["one", "other"] (defScope s_multiple) := ⟨rfl, rfl, rfl, by decide +kernel, rfl, by decide +kernel, by decide +kernel⟩
theorem div_w {i : Int} {b n : Nat} (h : 0 < b) (hb : b < 2 ^ n) (h0 : 0 < n) (hn : n ≤ 9000) : CDivW i (b : Int) :=
  ⟨by omega, by rw [Int.natAbs_natCast]; exact Nat.lt_of_lt_of_le (log2_small hb h0) hn⟩
theorem mul_w {a b n m : Nat} (ha : a < 2 ^ n) (hb : b < 2 ^ m) (h0 : 0 < n) (h1 : 0 < m) (h : n + m ≤ 1000000) : CMulW (a : Int) (b : Int) := by
  have x := log2_small ha h0
  have y := log2_small hb h1
  unfold CMulW
  rw [Int.natAbs_natCast, Int.natAbs_natCast]
  omega
theorem ok_multiple (T : Tx K mg) : Okf P w K mg base 2 (He.ga K "multiple") ["one", "other"] spMul := by
  obtain ⟨fD, GD, kD, bD⟩ := ok_divisor (P := P) (w := w) (base := base) T
  refine okf_of T.df_multiple sc_multiple (fun _ _ _ _ _ _ us hl => match us, hl with | [_, _], _ => rfl) (fun vs H Q E h => ?_) (fun cdv A outer s H vs Q E hr h => ?_)
  · obtain ⟨a, b, rfl, _⟩ := h
    rfl
  · obtain ⟨a, b, rfl, ha, hba, hbb, q⟩ := h
    have hg : 0 < Nat.gcd a b := Nat.gcd_pos_of_pos_left _ ha
    have hgl : Nat.gcd a b ≤ a := Nat.gcd_le_left _ ha
    refine ⟨_, pss_one (ps_ret (pe_op op_mulW (pe_op op_fdivW (pv 0) (pe_call GD hr (by rfl) T.g_divisor kD bD .nil pass0 (pa_cons (pv 0) (pa_cons (pv 1) pa_nil)))) (pv 1))), ?_⟩
    refine ⟨_, rfl, _, rfl, _, rfl, a, b, rfl, _, _, rfl, rfl, div_w hg (Nat.lt_of_le_of_lt hgl hba) (by decide) (by decide), _, rfl, _, _, rfl, rfl, ?_, ?_⟩
    · show CMulW ((a : Int) / ((Nat.gcd a b : Nat) : Int)) _
      rw [nat_ediv]
      exact mul_w (Nat.lt_of_le_of_lt (Nat.div_le_self _ _) hba) hbb (by decide) (by decide) (by decide)
    · show Q (V.int ((a : Int) / ((Nat.gcd a b : Nat) : Int) * (b : Int))) H
      rw [nat_ediv, ← Int.natCast_mul, Nat.div_mul_right_comm (Nat.gcd_dvd_left a b)]
      exact q
/-! ### ratio, times -/
def spRatio : Sp := fun vs H Q _ => ∃ a b : Nat, vs = [nV a, nV b] ∧ 0 < a ∧ 0 < b ∧ a < 2 ^ 300 ∧ b < 2 ^ 300 ∧ ∀ p, H p = none → Q (.ref p) (upd H p (.tup (pV (red a b))))
theorem sc_ratio : FnScope ["top", "bottom", "both"] ["top", "bottom"] (defScope s_ratio) := ⟨rfl, rfl, rfl, by decide +kernel, rfl, by decide +kernel, by decide +kernel⟩
theorem ok_ratio (T : Tx K mg) : Okf P w K mg base 2 (He.ga K "ratio") ["top", "bottom"] spRatio := by
  obtain ⟨fD, GD, kD, bD⟩ := ok_divisor (P := P) (w := w) (base := base) T
  refine okf_of T.df_ratio sc_ratio (fun _ _ _ _ _ _ us hl => match us, hl with | [_, _], _ => rfl) (fun vs H Q E h => ?_) (fun cdv A outer s H vs Q E hr h => ?_)
  · obtain ⟨a, b, rfl, _⟩ := h
    rfl
  · obtain ⟨a, b, rfl, ha, hb, hba, hbb, q⟩ := h
    have hg : 0 < Nat.gcd a b := Nat.gcd_pos_of_pos_left _ ha
    have hgl : Nat.gcd a b ≤ a := Nat.gcd_le_left _ ha
    have hd : ∀ i : Int, CDivW i ((Nat.gcd a b : Nat) : Int) := fun i => div_w hg (Nat.lt_of_le_of_lt hgl hba) (by decide) (by decide)
    refine ⟨_, pss_cons (ps_set (i := 2) sc_ratio.nd rfl (.inl rfl) (pe_call GD hr (by rfl) T.g_divisor kD bD .nil pass0 (pa_cons (pv 0) (pa_cons (pv 1) pa_nil))))
      (pss_one (ps_ret (pe_tup (pa_cons (pe_op op_fdivW (pv 0) (pv 2)) (pa_cons (pe_op op_fdivW (pv 1) (pv 2)) pa_nil))))), ?_⟩
    refine ⟨_, rfl, _, rfl, a, b, rfl, _, rfl, _, rfl, _, _, rfl, rfl, hd _, _, rfl, _, rfl, _, _, rfl, rfl, hd _, small_line (by show 2 ≤ 100000; omega), fun p hp => ?_⟩
    show Q (.ref p) (upd H p (.tup [V.int ((a : Int) / ((Nat.gcd a b : Nat) : Int)), V.int ((b : Int) / ((Nat.gcd a b : Nat) : Int))]))
    rw [nat_ediv, nat_ediv]
    exact q p hp
def spTimes : Sp := fun vs H Q _ => ∃ (p q : Addr) (x y : Nat × Nat), vs = [.ref p, .ref q] ∧ H p = some (.tup (pV x)) ∧ H q = some (.tup (pV y)) ∧ 0 < x.1 ∧ 0 < x.2 ∧ 0 < y.1 ∧ 0 < y.2 ∧ x.1 < 2 ^ 100 ∧ x.2 < 2 ^ 100 ∧ y.1 < 2 ^ 100 ∧ y.2 < 2 ^ 100 ∧
  ∀ r, H r = none → Q (.ref r) (upd H r (.tup (pV (tms x y))))
theorem sc_times : FnScope ["one", "other"] ["one", "other"] (defScope s_times) := ⟨rfl, rfl, rfl, by decide +kernel, rfl, by decide +kernel, by decide +kernel⟩
theorem mul_lt {a b : Nat} (ha : a < 2 ^ 100) (hb : b < 2 ^ 100) : a * b < 2 ^ 300 :=
  Nat.lt_of_lt_of_le (Nat.mul_lt_mul'' ha hb) (by rw [← Nat.pow_add]; exact Nat.pow_le_pow_right (by decide) (by decide))
theorem ok_times (T : Tx K mg) : Okf P w K mg base 3 (He.ga K "times") ["one", "other"] spTimes := by
  obtain ⟨fD, GD, kD, bD⟩ := ok_ratio (P := P) (w := w) (base := base) T
  refine okf_of T.df_times sc_times (fun _ _ _ _ _ _ us hl => match us, hl with | [_, _], _ => rfl) (fun vs H Q E h => ?_) (fun cdv A outer s H vs Q E hr h => ?_)
  · obtain ⟨p, q, x, y, rfl, _⟩ := h
    rfl
  · obtain ⟨p, q, x, y, rfl, hp, hq, h1, h2, h3, h4, h5, h6, h7, h8, k⟩ := h
    refine ⟨_, pss_one (ps_ret (pe_call GD hr (by rfl) T.g_ratio kD bD .nil pass0
      (pa_cons (pe_op op_mulW (pe_ix ix_tup (pv 0) pe_int (fun _ _ => rfl)) (pe_ix ix_tup (pv 1) pe_int (fun _ _ => rfl)))
        (pa_cons (pe_op op_mulW (pe_ix ix_tup (pv 0) pe_int (fun _ _ => rfl)) (pe_ix ix_tup (pv 1) pe_int (fun _ _ => rfl))) pa_nil)))), ?_⟩
    refine ⟨_, rfl, p, _, _, _, rfl, rfl, SqT.of hp, atI_nat (j := 0) rfl, _, rfl, q, _, _, _, rfl, rfl, SqT.of hq, atI_nat (j := 0) rfl, _, _, rfl, rfl, mul_w h5 h7 (by decide) (by decide) (by decide),
      _, rfl, p, _, _, _, rfl, rfl, SqT.of hp, atI_nat (j := 1) rfl, _, rfl, q, _, _, _, rfl, rfl, SqT.of hq, atI_nat (j := 1) rfl, _, _, rfl, rfl, mul_w h6 h8 (by decide) (by decide) (by decide),
      x.1 * y.1, x.2 * y.2, ?_, Nat.mul_pos h1 h3, Nat.mul_pos h2 h4, mul_lt h5 h7, mul_lt h6 h8, k⟩
    show [V.int ((x.1 : Int) * (y.1 : Int)), V.int ((x.2 : Int) * (y.2 : Int))] = _
    rw [← Int.natCast_mul, ← Int.natCast_mul]
/-! ### the law's own divisor -/
theorem sc_common : FnScope ["_law_one", "_law_other", "_law_rest"] ["_law_one", "_law_other"] (defScope s_l_common) := ⟨rfl, rfl, rfl, by decide +kernel, rfl, by decide +kernel, by decide +kernel⟩
theorem ok_common (T : Tx K mg) : Okf P w K mg base 1 (He.ga K "_law_common") ["_law_one", "_law_other"] spDiv := by
  refine okf_of T.df_l_common sc_common (fun _ _ _ _ _ _ us hl => match us, hl with | [_, _], _ => rfl) (fun vs H Q E h => ?_) (fun cdv A outer s H vs Q E hr h => ?_)
  · obtain ⟨a, b, rfl, _⟩ := h
    rfl
  · obtain ⟨a, b, rfl, q⟩ := h
    refine ⟨_, pss_cons (ps_while PassesOwn.never (pt_cmpR op_ne (pv 1) pe_int (nomark _))
        (pss_cons (ps_set (i := 2) sc_common.nd rfl (.inl rfl) (pe_op op_mod (pv 0) (pv 1))) (pss_cons (ps_set (i := 0) sc_common.nd rfl (.inl rfl) (pv 1)) (pss_one (ps_set (i := 1) sc_common.nd rfl (.inl rfl) (pv 2))))))
      (pss_one (ps_ret (pv 0))), ?_⟩
    refine ⟨fun m σ H' => ∃ (x y : Nat) (z : Option V), σ = [some (nV x), some (nV y), z] ∧ H' = H ∧ y = m ∧ Nat.gcd x y = Nat.gcd a b, ⟨b, a, b, none, rfl, rfl, rfl, rfl⟩, ?_⟩
    rintro m σ H' ⟨x, y, z, rfl, rfl, rfl, hg⟩
    refine ⟨_, rfl, rfl, _, rfl, ite2 (fun hne => ?_) (fun he => ?_)⟩
    · have hy : 0 < y := by
        rcases Nat.eq_zero_or_pos y with e | e
        · subst e
          simp at hne
        · exact e
      refine ⟨fun σ' H'' => ∃ (x' y' : Nat) (z' : Option V), σ' = [some (nV x'), some (nV y'), z'] ∧ H'' = H' ∧ y' < y ∧ Nat.gcd x' y' = Nat.gcd a b, fun σ' H'' hN => ?_, ?_⟩
      · obtain ⟨x', y', z', e1, e2, e3, e4⟩ := hN
        exact ⟨y', e3, x', y', z', e1, e2, rfl, e4⟩
      · refine ⟨_, rfl, _, rfl, _, _, rfl, rfl, (by show (0 : Int) < (y : Int); omega), _, rfl, _, rfl, y, x % y, some (V.int ((x : Int) % (y : Int))), ?_, rfl, Nat.mod_lt _ hy, ?_⟩
        · show [some (nV y), some (V.int ((x : Int) % (y : Int))), some (V.int ((x : Int) % (y : Int)))] = _
          rw [nat_emod]
        · rw [← hg, Nat.gcd_comm x y, Nat.gcd_rec y x, Nat.gcd_comm]
    · have hy : y = 0 := by
        rw [dec_int] at he
        simp at he
        exact he
      subst hy
      refine ⟨_, rfl, ?_⟩
      rw [← hg, Nat.gcd_zero_right] at q
      exact q
end
end RH
/-! Names and halls. -/
namespace RH
open PySem PySem.Spec PyProof.Rows L2
/-- the 26 letters' codes -/
def letters : List Nat := (Str.ofString "abcdefghijklmnopqrstuvwxyz").cps.toList
/-- one to eight letters -/
structure IsName (x : Str) : Prop where
  pos : 1 ≤ x.length
  le : x.length ≤ 8
  all : ∀ c, c ∈ x.cps.toList → c ∈ letters
theorem str_len (x : Str) : x.length = x.cps.size := rfl
section
variable {P : Program} {w : World} {K : PySem.W.Frag} {mg : Str → Option Value} {base : Heap}
def spIsName : Sp := fun vs H Q _ => ∃ x : Str, vs = [.str x] ∧ IsName x ∧ RV (.bl true) H Q
theorem sc_is_name : FnScope ["thing", "sign"] ["thing"] (defScope s_is_name) := ⟨rfl, rfl, rfl, by decide +kernel, rfl, by decide +kernel, by decide +kernel⟩
theorem kit_str_str : PySem.W.kitOne K (.type "str") (.type "str") = some true := kit_ty (by decide +kernel)
theorem ok_is_name (T : Tx K mg) : Okf P w K mg base 1 (He.ga K "is_name") ["thing"] spIsName := by
  obtain ⟨tl, hl⟩ := T.s_LETTERS
  refine okf_of T.df_is_name sc_is_name (fun _ _ _ _ _ _ us hl => match us, hl with | [_], _ => rfl) (fun vs H Q E h => ?_) (fun cdv A outer s H vs Q E hr h => ?_)
  · obtain ⟨x, rfl, _⟩ := h
    rfl
  · obtain ⟨x, rfl, N, q⟩ := h
    have hsz : x.length ≤ sizeLine := small_line (by have := N.le; omega)
    refine ⟨_, pss_cons (ps_if (PW.pt (pw_or (pt_not (pt_val (pe_callB call_isi (by rfl) T.b_isinstance (by decide +kernel) (pa_cons (pv 0) (pa_cons (pe_bltn (v := .ty "str") (by rfl) T.b_str (by decide +kernel) rfl) pa_nil)))))
        (pw_or (pt_cmpR op_lt (pe_callB call_len_str (by rfl) T.b_len PySem.boot_len (pa_cons (pv 0) pa_nil)) pe_int (nomark _)) (pw_or1 (pt_cmpR op_gt (pe_callB call_len_str (by rfl) T.b_len PySem.boot_len (pa_cons (pv 0) pa_nil)) pe_int (nomark _)))))) pss_never pss_nil)
      (pss_one (ps_ret (pe_callB (cr_all rfl) (by rfl) T.b_all (by decide +kernel) (pa_cons
        (pe_lc (own := [("sign", 1)]) (g := gName 1) (tt := tYes) rfl sc_is_name.nd (pi_str (pv 0)) (blkOk_by (own := [("sign", 1)]) (N := ["thing", "sign"]) (sc := defScope s_is_name) (by decide +kernel)) (fun _ _ _ _ _ => pg_name (i := 1) sc_is_name.nd rfl (Or.inl rfl)) (fun _ _ _ _ _ => pts_nil)
          (fun _ _ _ _ _ => pe_cmpR op_in_sign (pv 1) (pe_glob (v := .str "abcdefghijklmnopqrstuvwxyz") (by rfl) hl ⟨_, rfl⟩) (by rfl))) pa_nil)))), ?_⟩
    refine ⟨_, rfl, _, _, _, _, _, rfl, ClsV.ty "str", .base (.str _), kit_str_str, _, rfl, iteF ?_⟩
    refine ⟨_, rfl, _, rfl, hsz, _, _, rfl, rfl, _, rfl, ?_⟩
    have n1 : ¬ decide (((x.length : Nat) : Int) < 1) = true := fun z => by
      have := of_decide_eq_true z
      have := N.pos
      omega
    have n2 : ¬ decide ((8 : Int) < ((x.length : Nat) : Int)) = true := fun z => by
      have := of_decide_eq_true z
      have := N.le
      omega
    show if decide (((x.length : Nat) : Int) < 1) = true then _ else _
    rw [if_neg n1]
    refine ⟨_, rfl, _, rfl, hsz, _, _, rfl, rfl, _, rfl, ?_⟩
    show if decide ((8 : Int) < ((x.length : Nat) : Int)) = true then _ else _
    rw [if_neg n2]
    refine ⟨_, rfl, _, rfl, fun D hD => lc_signs (fun i H' => Fr [] H H' ∧ H' D = some (.lst ((List.replicate i true).map V.bl))) ⟨Fr.n0 hD, upd_same⟩ (fun i c H' hc p => ?_) (fun H' p => ?_)⟩
    · refine ⟨rfl, ?_⟩
      have hm : c ∈ letters := N.all c (by rw [← Array.getElem?_toList] at hc; exact List.mem_of_getElem? hc)
      refine ⟨_, rfl, c, _, rfl, rfl, _, p.2, ?_, ?_, ?_⟩
      · rw [List.length_map, List.length_replicate]
        have h1 : i < x.cps.size := by
          rw [← Array.getElem?_toList] at hc
          have := (List.getElem?_eq_some_iff.mp hc).1
          simpa using this
        have := N.le
        rw [str_len] at this
        exact small_line' (by omega)
      · exact p.1.mutL (.inr hD) p.2
      · rw [upd_same]
        show some (HO.lst (_ ++ [V.bl (decide (c ∈ letters))])) = _
        rw [decide_eq_true hm, List.replicate_succ', List.map_append]
        rfl
    · refine ⟨D, _, rfl, SqL.of p.2, ?_⟩
      have e : (List.replicate x.cps.size true).all id = true := by simp
      rw [e]
      exact q H' p.1
/-! ### halls -/
theorem ne_cl : ("called" : Str) ≠ "lines" := by decide +kernel
theorem ne_lc : ("lines" : Str) ≠ "called" := by decide +kernel
def hF (l1 l2 : Addr) : List (Str × V) := [("called", .ref l1), ("lines", .ref l2)]
theorem hF_called (l1 l2 : Addr) : (hF l1 l2).lookup ("called" : Str) = some (.ref l1) := look_eq _ _ _
theorem hF_lines (l1 l2 : Addr) : (hF l1 l2).lookup ("lines" : Str) = some (.ref l2) := by
  unfold hF
  rw [look_ne ne_lc, look_eq]
theorem hF_no {m : Str} (l1 l2 : Addr) (h1 : m ≠ "called") (h2 : m ≠ "lines") : (hF l1 l2).lookup m = none := by
  unfold hF
  rw [look_ne h1, look_ne h2]
  rfl
/-- a hall stands at h: its names at l1, its belts at l2 -/
structure HallAt (K : PySem.W.Frag) (H : Hp) (h l1 l2 : Addr) (names : List Str) (bs : List Belt) : Prop where
  ob : ∃ dx, H h = some (.ins (He.ga K "Hall") dx (hF l1 l2))
  nm : H l1 = some (.lst (names.map V.str))
  bl : Bls H l2 bs
  ne : l1 ≠ l2
section
variable {H H' : Hp} {h l1 l2 : Addr} {names : List Str} {bs : List Belt} {S : List Addr}
theorem HallAt.kept (A : HallAt K H h l1 l2 names bs) (x : Fr S H H') (h0 : h ∉ S) (h1 : l1 ∉ S) (h2 : l2 ∉ S) : HallAt K H' h l1 l2 names bs :=
  ⟨let ⟨dx, e⟩ := A.ob; ⟨dx, x.kp _ _ e h0⟩, x.kp _ _ A.nm h1, A.bl.kept x h2, A.ne⟩
theorem HallAt.keep (A : HallAt K H h l1 l2 names bs) (x : Fr [] H H') : HallAt K H' h l1 l2 names bs := A.kept x (by simp) (by simp) (by simp)
theorem HallAt.ne1 (A : HallAt K H h l1 l2 names bs) : h ≠ l1 := by
  obtain ⟨dx, e⟩ := A.ob
  exact ne_of e A.nm (by intro z; cases z)
theorem HallAt.ne2 (A : HallAt K H h l1 l2 names bs) : h ≠ l2 := by
  obtain ⟨dx, e⟩ := A.ob
  obtain ⟨as, e2, _⟩ := A.bl
  exact ne_of e e2 (by intro z; cases z)
/-- where none of its three objects stood before, nothing of before is among them -/
theorem HallAt.app (A : HallAt K H h l1 l2 names bs) {x : Str} : HallAt K (upd H l1 (.lst (names.map V.str ++ [.str x]))) h l1 l2 (names ++ [x]) bs := by
  have f : Fr [l1] H (upd H l1 (.lst (names.map V.str ++ [.str x]))) := (Fr.refl _ H).mutL (.inl (by simp)) A.nm
  refine ⟨?_, ?_, A.bl.kept f (by simpa using fun e => A.ne e.symm), A.ne⟩
  · obtain ⟨dx, e⟩ := A.ob
    exact ⟨dx, f.kp _ _ e (by simpa using A.ne1)⟩
  · rw [upd_same, List.map_append]
    rfl
end
/-! the promises -/
def spHallInit (K : PySem.W.Frag) : Sp := fun vs H Q _ => ∃ (p dx : Addr), vs = [.ref p] ∧ H p = some (.ins (He.ga K "Hall") dx []) ∧
  ∀ (H' : Hp) (l1 l2 : Addr), H l1 = none → H l2 = none → HallAt K H' p l1 l2 [] [] → Fr [p] H H' → Q .non H'
theorem sc_Hall_init : FnScope ["self"] ["self"] (defScope s_Hall_init) := ⟨rfl, rfl, rfl, by decide +kernel, rfl, by decide +kernel, by decide +kernel⟩
theorem ok_Hall_init (T : Tx K mg) : Okf P w K mg base 1 (He.ma K (He.ga K "Hall") "__init__") ["self"] (spHallInit K) := by
  refine okf_of T.df_Hall_init sc_Hall_init (fun _ _ _ _ _ _ us hl => match us, hl with | [_], _ => rfl) (fun vs H Q E h => ?_) (fun cdv A outer s H vs Q E hr h => ?_)
  · obtain ⟨p, dx, rfl, _⟩ := h
    rfl
  · obtain ⟨p, dx, rfl, hp, q⟩ := h
    refine ⟨_, pss_cons (ps_fld (pv 0) (pe_lst pa_nil) rfl) (pss_one (ps_fld (pv 0) (pe_lst pa_nil) rfl)), ?_⟩
    refine ⟨Nat.zero_le _, fun l1 h1 => ?_⟩
    have n1 : p ≠ l1 := ne_of_none hp h1
    have hp1 : (upd H l1 (.lst [])) p = some (.ins (He.ga K "Hall") dx []) := by rw [upd_ne n1]; exact hp
    refine ⟨_, rfl, p, _, dx, [], rfl, hp1, T.cl_Hall, T.n_Hall_called, (by show 0 < 1000; decide), ?_⟩
    refine ⟨Nat.zero_le _, fun l2 h2 => ?_⟩
    have f1 : Fr [p] H (upd H l1 (.lst [])) := (Fr.refl _ H).new h1
    have f2 : Fr [p] H (upd (upd H l1 (.lst [])) p (.ins (He.ga K "Hall") dx (putF "called" (.ref l1) []))) := f1.mutI (.inl (by simp)) hp1
    have n2 : p ≠ l2 := fun e => by
      rw [← e, upd_same] at h2
      cases h2
    have n12 : l1 ≠ l2 := fun e => by
      rw [← e, upd_ne n1.symm, upd_same] at h2
      cases h2
    have hp2 : (upd (upd (upd H l1 (.lst [])) p (.ins (He.ga K "Hall") dx (putF "called" (.ref l1) []))) l2 (.lst [])) p = some (.ins (He.ga K "Hall") dx (putF "called" (.ref l1) [])) := by rw [upd_ne n2, upd_same]
    refine ⟨_, rfl, p, _, dx, _, rfl, hp2, T.cl_Hall, T.n_Hall_lines, (by show 1 < 1000; decide), ?_⟩
    refine q _ l1 l2 h1 (f2.free h2) ⟨⟨dx, ?_⟩, ?_, ⟨[], ?_, rfl, fun i a b h => by simp at h⟩, n12⟩ ((f2.new h2).mutI (.inl (by simp)) hp2)
    · rw [upd_same, putF_nil, putF_ne ne_cl, putF_nil]
      rfl
    · rw [upd_ne n1.symm, upd_ne n12, upd_ne n1.symm, upd_same]
      rfl
    · rw [upd_ne n2.symm, upd_same]
      rfl
def spNeed (K : PySem.W.Frag) : Sp := fun vs H Q _ => ∃ (h l1 l2 : Addr) (names : List Str) (bs : List Belt) (k : Nat), vs = [.ref h, nV k] ∧ HallAt K H h l1 l2 names bs ∧ k < names.length ∧ Q .non H
theorem sc_Hall_need : FnScope ["self", "work"] ["self", "work"] (defScope s_Hall_need) := ⟨rfl, rfl, rfl, by decide +kernel, rfl, by decide +kernel, by decide +kernel⟩
theorem le_nat (k : Nat) : decide ((0 : Int) ≤ (k : Int)) = true := decide_eq_true (by omega)
theorem ok_Hall_need (T : Tx K mg) : Okf P w K mg base 1 (He.ma K (He.ga K "Hall") "need") ["self", "work"] (spNeed K) := by
  refine okf_of T.df_Hall_need sc_Hall_need (fun _ _ _ _ _ _ us hl => match us, hl with | [_, _], _ => rfl) (fun vs H Q E h => ?_) (fun cdv A outer s H vs Q E hr h => ?_)
  · obtain ⟨h, l1, l2, names, bs, k, rfl, _⟩ := h
    rfl
  · obtain ⟨h, l1, l2, names, bs, k, rfl, A, hk, q⟩ := h
    obtain ⟨dx, e⟩ := A.ob
    refine ⟨_, pss_one (ps_if (pt_not (pt_chain op_le op_lt pe_int (pv 1) (pe_callB call_len_seq (by rfl) T.b_len PySem.boot_len (pa_cons (pe_fld (pv 0) rfl) pa_nil)))) pss_never pss_nil), ?_⟩
    refine ⟨_, rfl, _, _, rfl, rfl, _, rfl, ?_⟩
    show if decide ((0 : Int) ≤ (k : Int)) = true then _ else _
    rw [le_nat]
    have e2 : decide ((k : Int) < (((names.map V.str).length : Nat) : Int)) = true := decide_eq_true (by rw [List.length_map]; omega)
    refine iteT ?_
    refine ⟨_, rfl, h, _, dx, _, _, rfl, e, T.cl_Hall, T.n_Hall_called, hF_called _ _, l1, _, rfl, .inl (SqL.of A.nm), _, _, rfl, rfl, _, rfl, ?_⟩
    show if (!decide ((k : Int) < (((names.map V.str).length : Nat) : Int))) = true then _ else _
    rw [e2]
    exact iteF q
def spWork (K : PySem.W.Frag) : Sp := fun vs H Q _ => ∃ (h l1 l2 : Addr) (names : List Str) (bs : List Belt) (x : Str), vs = [.ref h, .str x] ∧ HallAt K H h l1 l2 names bs ∧ IsName x ∧ x ∉ names ∧ names.length < 30 ∧
  ∀ H' : Hp, HallAt K H' h l1 l2 (names ++ [x]) bs → Fr [l1] H H' → Q (nV names.length) H'
theorem sc_Hall_work : FnScope ["self", "name"] ["self", "name"] (defScope s_Hall_work) := ⟨rfl, rfl, rfl, by decide +kernel, rfl, by decide +kernel, by decide +kernel⟩
theorem inV_str {x : Str} {xs : List Str} : inV (.str x) (xs.map V.str) = decide (x ∈ xs) := by
  unfold inV
  rw [List.any_map]
  by_cases h : x ∈ xs
  · rw [decide_eq_true h]
    refine List.any_eq_true.mpr ⟨x, h, ?_⟩
    simp [eqV]
  · rw [decide_eq_false h, List.any_eq_false]
    intro y hy
    have : y ≠ x := fun e => h (e ▸ hy)
    simpa [eqV] using this
theorem flat_strs (xs : List Str) : (xs.map V.str).all flatV = true := by
  rw [List.all_map]
  exact List.all_eq_true.mpr fun x _ => rfl
theorem ok_Hall_work (T : Tx K mg) : Okf P w K mg base 2 (He.ma K (He.ga K "Hall") "work") ["self", "name"] (spWork K) := by
  obtain ⟨fN, GN, kN, bN⟩ := ok_is_name (P := P) (w := w) (base := base) T
  obtain ⟨tw, hw⟩ := T.i_MOST_WORKS
  refine okf_of T.df_Hall_work sc_Hall_work (fun _ _ _ _ _ _ us hl => match us, hl with | [_, _], _ => rfl) (fun vs H Q E h => ?_) (fun cdv A outer s H vs Q E hr h => ?_)
  · obtain ⟨h, l1, l2, names, bs, x, rfl, _⟩ := h
    rfl
  · obtain ⟨h, l1, l2, names, bs, x, rfl, A, N, hx, hl, q⟩ := h
    refine ⟨_, pss_cons (ps_if (pt_not (pt_val (pe_call GN hr (by rfl) T.g_is_name kN bN .nil pass0 (pa_cons (pv 1) pa_nil)))) pss_never pss_nil)
      (pss_cons (ps_if (pt_cmpR op_in_seq (pv 1) (pe_fld (pv 0) rfl) (by rfl)) pss_never pss_nil)
      (pss_cons (ps_if (pt_cmpR op_ge (pe_callB call_len_seq (by rfl) T.b_len PySem.boot_len (pa_cons (pe_fld (pv 0) rfl) pa_nil)) (pe_glob (v := .int 30) (by rfl) hw ⟨_, rfl⟩) (nomark _)) pss_never pss_nil)
      (pss_cons (ps_expr (pe_bm PySem.F.plainAttrs_list PySem.F.slot_list_append PySem.F.type_list_append mt_append (pe_fld (pv 0) rfl) (pa_cons (pv 1) pa_nil)))
      (pss_one (ps_ret (pe_op op_sub (pe_callB call_len_seq (by rfl) T.b_len PySem.boot_len (pa_cons (pe_fld (pv 0) rfl) pa_nil)) pe_int)))))), ?_⟩
    refine ⟨_, rfl, x, rfl, N, fun H1 f1 => ⟨_, rfl, iteF ?_⟩⟩
    have A1 := A.keep f1
    obtain ⟨dx, e⟩ := A1.ob
    refine ⟨_, rfl, _, rfl, h, _, dx, _, _, rfl, e, T.cl_Hall, T.n_Hall_called, hF_called _ _, l1, _, rfl, .inl (SqL.of A1.nm), rfl, flat_strs _, _, rfl, ?_⟩
    show if inV (.str x) (names.map V.str) = true then _ else _
    rw [inV_str, decide_eq_false hx]
    refine iteF ?_
    refine ⟨_, rfl, h, _, dx, _, _, rfl, e, T.cl_Hall, T.n_Hall_called, hF_called _ _, l1, _, rfl, .inl (SqL.of A1.nm), _, _, rfl, rfl, _, rfl, ?_⟩
    have e3 : ¬ decide ((30 : Int) ≤ (((names.map V.str).length : Nat) : Int)) = true := fun z => by
      have := of_decide_eq_true z
      rw [List.length_map] at this
      omega
    show if decide ((30 : Int) ≤ (((names.map V.str).length : Nat) : Int)) = true then _ else _
    rw [if_neg e3]
    refine ⟨_, rfl, h, _, dx, _, _, rfl, e, T.cl_Hall, T.n_Hall_called, hF_called _ _, .inl ⟨rfl, _, SqL.of A1.nm⟩, _, rfl, l1, _, _, rfl, rfl, A1.nm, (by rw [List.length_map]; exact small_line' (by omega)), ?_⟩
    have f2 : Fr [l1] H1 (upd H1 l1 (.lst (names.map V.str ++ [.str x]))) := (Fr.refl _ H1).mutL (.inl (by simp)) A1.nm
    have A2 := A1.app (x := x)
    obtain ⟨dx2, e4⟩ := A2.ob
    refine ⟨_, rfl, h, _, dx2, _, _, rfl, e4, T.cl_Hall, T.n_Hall_called, hF_called _ _, l1, _, rfl, .inl (SqL.of A2.nm), _, _, rfl, rfl, ?_⟩
    have e5 : ((((names ++ [x]).map V.str).length : Nat) : Int) - 1 = (names.length : Int) := by
      rw [List.length_map, List.length_append]
      simp
    show Q (.int (((((names ++ [x]).map V.str).length : Nat) : Int) - 1)) _
    rw [e5]
    exact q _ A2 (f1.nil.trans f2)
/-! belts -/
theorem HallAt.laid {H H1 : Hp} {h l1 l2 a : Addr} {names : List Str} {bs : List Belt} {as : List Addr} {b : Belt} (A : HallAt K H h l1 l2 names bs) (f : Fr [] H H1) (hl : H1 l2 = some (.lst (rV as))) (ht : Tups H1 as bs) (ha : H1 a = some (.tup (bV b))) :
    HallAt K (upd H1 l2 (.lst (rV as ++ [.ref a]))) h l1 l2 names (bs ++ [b]) ∧ Fr [l2] H (upd H1 l2 (.lst (rV as ++ [.ref a]))) := by
  have f2 : Fr [l2] H1 (upd H1 l2 (.lst (rV as ++ [.ref a]))) := (Fr.refl _ H1).mutL (.inl (by simp)) hl
  have A1 := A.keep f
  refine ⟨⟨?_, f2.kp _ _ A1.nm (by simpa using A.ne), ⟨as ++ [a], ?_, ?_⟩, A.ne⟩, f.nil.trans f2⟩
  · obtain ⟨dx, e⟩ := A1.ob
    exact ⟨dx, f2.kp _ _ e (by simpa using A1.ne2)⟩
  · rw [upd_same]
    unfold rV
    rw [List.map_append]
    rfl
  · exact (ht.mono f2).snoc (f2.tp _ _ ha)
def spBelt (K : PySem.W.Frag) : Sp := fun vs H Q _ => ∃ (h l1 l2 : Addr) (names : List Str) (bs : List Belt) (b : Belt), vs = .ref h :: bV b ∧ HallAt K H h l1 l2 names bs ∧ b.g < names.length ∧ b.t < names.length ∧ 0 < b.gv ∧ 0 < b.tk ∧ bs.length < 60 ∧
  ∀ H' : Hp, HallAt K H' h l1 l2 names (bs ++ [b]) → Fr [l2] H H' → Q (nV bs.length) H'
theorem sc_Hall_lay : FnScope ["self", "giver", "taker", "give", "take", "start"] ["self", "giver", "taker", "give", "take", "start"] (defScope s_Hall_lay) := ⟨rfl, rfl, rfl, by decide +kernel, rfl, by decide +kernel, by decide +kernel⟩
theorem ok_Hall_lay (T : Tx K mg) : Okf P w K mg base 1 (He.ma K (He.ga K "Hall") "lay") ["self", "giver", "taker", "give", "take", "start"] (spBelt K) := by
  refine okf_of T.df_Hall_lay sc_Hall_lay (fun _ _ _ _ _ _ us hl => match us, hl with | [_, _, _, _, _, _], _ => rfl) (fun vs H Q E h => ?_) (fun cdv A outer s H vs Q E hr h => ?_)
  · obtain ⟨h, l1, l2, names, bs, b, rfl, _⟩ := h
    rfl
  · obtain ⟨h, l1, l2, names, bs, b, rfl, A, hg, ht, hv, hk, hl, q⟩ := h
    obtain ⟨dx, e⟩ := A.ob
    obtain ⟨as, e2, tp⟩ := id A.bl
    refine ⟨_, pss_cons (ps_expr (pe_bm PySem.F.plainAttrs_list PySem.F.slot_list_append PySem.F.type_list_append mt_append (pe_fld (pv 0) rfl) (pa_cons (pe_tup (pa_cons (pv 1) (pa_cons (pv 2) (pa_cons (pv 3) (pa_cons (pv 4) (pa_cons (pv 5) pa_nil)))))) pa_nil)))
      (pss_one (ps_ret (pe_op op_sub (pe_callB call_len_seq (by rfl) T.b_len PySem.boot_len (pa_cons (pe_fld (pv 0) rfl) pa_nil)) pe_int))), ?_⟩
    refine ⟨_, rfl, h, _, dx, _, _, rfl, e, T.cl_Hall, T.n_Hall_lines, hF_lines _ _, .inl ⟨rfl, _, SqL.of e2⟩, _, rfl, _, rfl, _, rfl, _, rfl, _, rfl, small_line (by show 5 ≤ 100000; omega), fun a ha => ?_⟩
    have f1 : Fr [] H (upd H a (.tup (bV b))) := Fr.n0 ha
    have e3 : (upd H a (.tup (bV b))) l2 = some (.lst (rV as)) := f1.at_ e2
    have hlen : as.length = bs.length := tp.1
    refine ⟨l2, _, _, rfl, rfl, e3, (by rw [rV_len]; exact small_line' (by omega)), ?_⟩
    obtain ⟨A2, f2⟩ := A.laid (b := b) f1 e3 (tp.mono f1) upd_same
    obtain ⟨dx2, e4⟩ := A2.ob
    refine ⟨_, rfl, h, _, dx2, _, _, rfl, e4, T.cl_Hall, T.n_Hall_lines, hF_lines _ _, l2, _, rfl, .inl (SqL.of upd_same), _, _, rfl, rfl, ?_⟩
    have e5 : (((rV as ++ [V.ref a]).length : Nat) : Int) - 1 = (bs.length : Int) := by
      rw [List.length_append, rV_len, hlen]
      simp
    show Q (.int ((((rV as ++ [V.ref a]).length : Nat) : Int) - 1)) _
    rw [e5]
    exact q _ A2 f2
/-- a def with one default, 0 -/
def Okf1 (P : Program) (w : World) (K : PySem.W.Frag) (mg : Str → Option Value) (base : Heap) (k : Nat) (f : Addr) (ps : List Str) (sp : Sp) : Prop :=
  ∃ fd, FnOk P w K mg base CX0 k f fd ps sp ∧ PySem.W.keepIn K (.ref f) = true ∧ Binds K fd ps [] ∧ ∃ d, Vals [V.int 0] d ∧ Binds K fd ps d
theorem sc_Hall_belt : FnScope ["self", "giver", "taker", "give", "take", "start"] ["self", "giver", "taker", "give", "take", "start"] (defScope s_Hall_belt) := ⟨rfl, rfl, rfl, by decide +kernel, rfl, by decide +kernel, by decide +kernel⟩
theorem not_lt1 {n : Nat} (h : 0 < n) : ¬ decide ((n : Int) < 1) = true := fun z => by
  have := of_decide_eq_true z
  omega
theorem not_lt0 (n : Nat) : ¬ decide ((n : Int) < 0) = true := fun z => by
  have := of_decide_eq_true z
  omega
theorem ok_Hall_belt (T : Tx K mg) : Okf1 P w K mg base 2 (He.ma K (He.ga K "Hall") "belt") ["self", "giver", "taker", "give", "take", "start"] (spBelt K) := by
  obtain ⟨fN, GN, kN, bN⟩ := ok_Hall_need (P := P) (w := w) (base := base) T
  obtain ⟨fL, GL, kL, bL⟩ := ok_Hall_lay (P := P) (w := w) (base := base) T
  obtain ⟨tw, hw⟩ := T.i_MOST_BELTS
  obtain ⟨fd, F⟩ := T.df_Hall_belt
  obtain ⟨d0, r0, b0⟩ := F.binds1 (ps := ["self", "giver", "taker", "give", "take", "start"]) 6 1 (by simp) rfl (fun T kV doc pm an cdv ct us its h1 h2 => match us, its, h1, h2 with | [_, _, _, _, _, _], [_], _, _ => ⟨_, rfl, rfl⟩)
  obtain ⟨d1, r1, b1⟩ := F.binds1 (ps := ["self", "giver", "taker", "give", "take", "start"]) 5 0 (by simp) rfl (fun T kV doc pm an cdv ct us its h1 h2 => match us, its, h1, h2 with | [_, _, _, _, _], [_], _, _ => ⟨_, rfl, rfl⟩)
  have e0 : d0 = [] := by cases r0; rfl
  subst e0
  refine ⟨fd, F.ok sc_Hall_belt (fun vs H Q E h => ?_) (fun cdv A outer s H vs Q E hr h => ?_), F.kp, b0, d1, r1, b1⟩
  · obtain ⟨h, l1, l2, names, bs, b, rfl, _⟩ := h
    rfl
  · obtain ⟨h, l1, l2, names, bs, b, rfl, A, hg, ht, hv, hk, hl, q⟩ := h
    obtain ⟨dx, e⟩ := A.ob
    obtain ⟨as, e2, tp⟩ := id A.bl
    have nN : (hF l1 l2).lookup ("need" : Str) = none := hF_no _ _ (by decide +kernel) (by decide +kernel)
    have nL : (hF l1 l2).lookup ("lay" : Str) = none := hF_no _ _ (by decide +kernel) (by decide +kernel)
    refine ⟨_, PSs.nox (pss_cons (ps_expr (pe_meth (pv 0) T.cl_Hall T.m_Hall_need GN hr bN .nil pass0 (pa_cons (pv 1) pa_nil))) (pss_cons (ps_expr (pe_meth (pv 0) T.cl_Hall T.m_Hall_need GN hr bN .nil pass0 (pa_cons (pv 2) pa_nil)))
      (pss_cons (ps_if (PW.pt (pw_or (pt_cmpR op_lt (pv 3) pe_int (nomark _)) (pw_or (pt_cmpR op_lt (pv 4) pe_int (nomark _)) (pw_or1 (pt_cmpR op_lt (pv 5) pe_int (nomark _)))))) pss_never pss_nil)
      (pss_cons (ps_if (pt_cmpR op_ge (pe_callB call_len_seq (by rfl) T.b_len PySem.boot_len (pa_cons (pe_fld (pv 0) rfl) pa_nil)) (pe_glob (v := .int 60) (by rfl) hw ⟨_, rfl⟩) (nomark _)) pss_never pss_nil)
      (pss_one (ps_ret (pe_meth (pv 0) T.cl_Hall T.m_Hall_lay GL hr bL .nil pass0 (pa_cons (pv 1) (pa_cons (pv 2) (pa_cons (pv 3) (pa_cons (pv 4) (pa_cons (pv 5) pa_nil))))))))))))
      , ?_⟩
    refine ⟨_, rfl, h, dx, _, rfl, e, nN, _, rfl, h, l1, l2, names, bs, b.g, rfl, A, hg, ?_⟩
    refine ⟨_, rfl, h, dx, _, rfl, e, nN, _, rfl, h, l1, l2, names, bs, b.t, rfl, A, ht, ?_⟩
    refine ⟨_, rfl, _, _, rfl, rfl, _, rfl, ?_⟩
    show if decide ((b.gv : Int) < 1) = true then _ else _
    rw [if_neg (not_lt1 hv)]
    refine ⟨_, rfl, _, _, rfl, rfl, _, rfl, ?_⟩
    show if decide ((b.tk : Int) < 1) = true then _ else _
    rw [if_neg (not_lt1 hk)]
    refine ⟨_, rfl, _, _, rfl, rfl, _, rfl, ?_⟩
    show if decide ((b.st : Int) < 0) = true then _ else _
    rw [if_neg (not_lt0 _)]
    refine ⟨_, rfl, h, _, dx, _, _, rfl, e, T.cl_Hall, T.n_Hall_lines, hF_lines _ _, l2, _, rfl, .inl (SqL.of e2), _, _, rfl, rfl, _, rfl, ?_⟩
    have e3 : ¬ decide ((60 : Int) ≤ (((rV as).length : Nat) : Int)) = true := fun z => by
      have := of_decide_eq_true z
      have := tp.1
      rw [rV_len] at *
      omega
    show if decide ((60 : Int) ≤ (((rV as).length : Nat) : Int)) = true then _ else _
    rw [if_neg e3]
    refine ⟨_, rfl, h, dx, _, rfl, e, nL, _, rfl, _, rfl, _, rfl, _, rfl, _, rfl, h, l1, l2, names, bs, b, rfl, A, hg, ht, hv, hk, hl, q⟩
/-! what is told of a hall -/
def spNames (K : PySem.W.Frag) : Sp := fun vs H Q _ => ∃ (h l1 l2 : Addr) (names : List Str) (bs : List Belt), vs = [.ref h] ∧ HallAt K H h l1 l2 names bs ∧ RL (names.map V.str) H Q
theorem sc_Hall_names : FnScope ["self"] ["self"] (defScope s_Hall_names) := ⟨rfl, rfl, rfl, by decide +kernel, rfl, by decide +kernel, by decide +kernel⟩
theorem ok_Hall_names (T : Tx K mg) : Okf P w K mg base 1 (He.ma K (He.ga K "Hall") "names") ["self"] (spNames K) := by
  refine okf_of T.df_Hall_names sc_Hall_names (fun _ _ _ _ _ _ us hl => match us, hl with | [_], _ => rfl) (fun vs H Q E h => ?_) (fun cdv A outer s H vs Q E hr h => ?_)
  · obtain ⟨h, l1, l2, names, bs, rfl, _⟩ := h
    rfl
  · obtain ⟨h, l1, l2, names, bs, rfl, A, q⟩ := h
    obtain ⟨dx, e⟩ := A.ob
    refine ⟨_, pss_one (ps_ret (pe_callTy call_list_of (by rfl) T.b_list (by decide +kernel) (pa_cons (pe_fld (pv 0) rfl) pa_nil))), ?_⟩
    exact ⟨_, rfl, h, _, dx, _, _, rfl, e, T.cl_Hall, T.n_Hall_called, hF_called _ _, l1, _, rfl, .inl (SqL.of A.nm), fun p hp => q p _ hp (Fr.n0 hp) upd_same⟩
/-- a call that hands back a new list of belts -/
def RB (bs : List Belt) (H : Hp) (Q : VK) : Prop := ∀ p H', H p = none → Fr [] H H' → Bls H' p bs → Q (.ref p) H'
def spBelts (K : PySem.W.Frag) : Sp := fun vs H Q _ => ∃ (h l1 l2 : Addr) (names : List Str) (bs : List Belt), vs = [.ref h] ∧ HallAt K H h l1 l2 names bs ∧ RB bs H Q
theorem sc_Hall_belts : FnScope ["self"] ["self"] (defScope s_Hall_belts) := ⟨rfl, rfl, rfl, by decide +kernel, rfl, by decide +kernel, by decide +kernel⟩
theorem ok_Hall_belts (T : Tx K mg) : Okf P w K mg base 1 (He.ma K (He.ga K "Hall") "belts") ["self"] (spBelts K) := by
  refine okf_of T.df_Hall_belts sc_Hall_belts (fun _ _ _ _ _ _ us hl => match us, hl with | [_], _ => rfl) (fun vs H Q E h => ?_) (fun cdv A outer s H vs Q E hr h => ?_)
  · obtain ⟨h, l1, l2, names, bs, rfl, _⟩ := h
    rfl
  · obtain ⟨h, l1, l2, names, bs, rfl, A, q⟩ := h
    obtain ⟨dx, e⟩ := A.ob
    obtain ⟨as, e2, tp⟩ := id A.bl
    refine ⟨_, pss_one (ps_ret (pe_callTy call_list_of (by rfl) T.b_list (by decide +kernel) (pa_cons (pe_fld (pv 0) rfl) pa_nil))), ?_⟩
    exact ⟨_, rfl, h, _, dx, _, _, rfl, e, T.cl_Hall, T.n_Hall_lines, hF_lines _ _, l2, _, rfl, .inl (SqL.of e2), fun p hp => q p _ hp (Fr.n0 hp) ⟨as, upd_same, tp.mono (Fr.n0 hp)⟩⟩
def spBeltAt (K : PySem.W.Frag) : Sp := fun vs H Q _ => ∃ (h l1 l2 : Addr) (names : List Str) (bs : List Belt) (i : Nat) (b : Belt), vs = [.ref h, nV i] ∧ HallAt K H h l1 l2 names bs ∧ bs[i]? = some b ∧ ∀ a, H a = some (.tup (bV b)) → Q (.ref a) H
theorem sc_Hall_belt_at : FnScope ["self", "belt"] ["self", "belt"] (defScope s_Hall_belt_at) := ⟨rfl, rfl, rfl, by decide +kernel, rfl, by decide +kernel, by decide +kernel⟩
theorem ok_Hall_belt_at (T : Tx K mg) : Okf P w K mg base 1 (He.ma K (He.ga K "Hall") "belt_at") ["self", "belt"] (spBeltAt K) := by
  refine okf_of T.df_Hall_belt_at sc_Hall_belt_at (fun _ _ _ _ _ _ us hl => match us, hl with | [_, _], _ => rfl) (fun vs H Q E h => ?_) (fun cdv A outer s H vs Q E hr h => ?_)
  · obtain ⟨h, l1, l2, names, bs, i, b, rfl, _⟩ := h
    rfl
  · obtain ⟨h, l1, l2, names, bs, i, b, rfl, A, hi, q⟩ := h
    obtain ⟨dx, e⟩ := A.ob
    obtain ⟨as, e2, tp⟩ := id A.bl
    obtain ⟨a, ha, hta⟩ := tp.get hi
    have hia := (List.getElem?_eq_some_iff.mp ha).1
    refine ⟨_, pss_cons (ps_if (pt_not (pt_chain op_le op_lt pe_int (pv 1) (pe_callB call_len_seq (by rfl) T.b_len PySem.boot_len (pa_cons (pe_fld (pv 0) rfl) pa_nil)))) pss_never pss_nil)
      (pss_one (ps_ret (pe_ix ix_list (pe_fld (pv 0) rfl) (pv 1) (fun _ _ => rfl)))), ?_⟩
    refine ⟨_, rfl, _, _, rfl, rfl, _, rfl, ?_⟩
    show if decide ((0 : Int) ≤ (i : Int)) = true then _ else _
    rw [le_nat]
    have e3 : decide ((i : Int) < (((rV as).length : Nat) : Int)) = true := decide_eq_true (by rw [rV_len]; omega)
    refine iteT ?_
    refine ⟨_, rfl, h, _, dx, _, _, rfl, e, T.cl_Hall, T.n_Hall_lines, hF_lines _ _, l2, _, rfl, .inl (SqL.of e2), _, _, rfl, rfl, _, rfl, ?_⟩
    show if (!decide ((i : Int) < (((rV as).length : Nat) : Int))) = true then _ else _
    rw [e3]
    refine iteF ?_
    exact ⟨_, rfl, h, _, dx, _, _, rfl, e, T.cl_Hall, T.n_Hall_lines, hF_lines _ _, _, rfl, l2, _, _, _, rfl, rfl, SqL.of e2, atI_nat (rV_at ha), q a hta⟩
/-! another start -/
def withSt (b : Belt) (z : Nat) : Belt := ⟨b.g, b.t, b.gv, b.tk, z⟩
theorem Tups.put {H : Hp} {as : List Addr} {bs : List Belt} (h : Tups H as bs) {i : Nat} {a : Addr} {b : Belt} (e : H a = some (.tup (bV b))) : Tups H (as.set i a) (bs.set i b) := by
  refine ⟨by rw [List.length_set, List.length_set, h.1], fun j c d h1 h2 => ?_⟩
  by_cases hj : i = j
  · subst hj
    have k1 := (List.getElem?_eq_some_iff.mp h1).1
    have k2 := (List.getElem?_eq_some_iff.mp h2).1
    rw [List.length_set] at k1 k2
    rw [List.getElem?_set_self k1] at h1
    rw [List.getElem?_set_self k2] at h2
    have e1 : a = c := Option.some.inj h1
    have e2 : b = d := Option.some.inj h2
    rw [← e1, ← e2]
    exact e
  · rw [List.getElem?_set_ne hj] at h1
    rw [List.getElem?_set_ne hj] at h2
    exact h.2 j c d h1 h2
def spFill (K : PySem.W.Frag) : Sp := fun vs H Q _ => ∃ (h l1 l2 : Addr) (names : List Str) (bs : List Belt) (i : Nat) (b : Belt) (z : Nat), vs = [.ref h, nV i, nV z] ∧ HallAt K H h l1 l2 names bs ∧ bs[i]? = some b ∧
  ∀ (v : V) (H' : Hp), HallAt K H' h l1 l2 names (bs.set i (withSt b z)) → Fr [l2] H H' → Q v H'
theorem sc_Hall_fill : FnScope ["self", "belt", "start", "giver", "taker", "give", "take", "before"] ["self", "belt", "start"] (defScope s_Hall_fill) := ⟨rfl, rfl, rfl, by decide +kernel, rfl, by decide +kernel, by decide +kernel⟩
theorem ok_Hall_fill (T : Tx K mg) : Okf P w K mg base 2 (He.ma K (He.ga K "Hall") "fill") ["self", "belt", "start"] (spFill K) := by
  obtain ⟨fB, GB, kB, bB⟩ := ok_Hall_belt_at (P := P) (w := w) (base := base) T
  refine okf_of T.df_Hall_fill sc_Hall_fill (fun _ _ _ _ _ _ us hl => match us, hl with | [_, _, _], _ => rfl) (fun vs H Q E h => ?_) (fun cdv A outer s H vs Q E hr h => ?_)
  · obtain ⟨h, l1, l2, names, bs, i, b, z, rfl, _⟩ := h
    rfl
  · obtain ⟨h, l1, l2, names, bs, i, b, z, rfl, A, hi, q⟩ := h
    obtain ⟨dx, e⟩ := A.ob
    obtain ⟨as, e2, tp⟩ := id A.bl
    have nB : (hF l1 l2).lookup ("belt_at" : Str) = none := hF_no _ _ (by decide +kernel) (by decide +kernel)
    have hib := (List.getElem?_eq_some_iff.mp hi).1
    refine ⟨_, pss_cons (ps_asg (pe_meth (pv 0) T.cl_Hall T.m_Hall_belt_at GB hr bB .nil pass0 (pa_cons (pv 1) pa_nil))
        (pg_tup rfl (pgs_cons (pg_name (i := 3) sc_Hall_fill.nd rfl (.inl rfl)) (pgs_cons (pg_name (i := 4) sc_Hall_fill.nd rfl (.inl rfl)) (pgs_cons (pg_name (i := 5) sc_Hall_fill.nd rfl (.inl rfl)) (pgs_cons (pg_name (i := 6) sc_Hall_fill.nd rfl (.inl rfl)) (pgs_cons (pg_name (i := 7) sc_Hall_fill.nd rfl (.inl rfl)) pgs_nil)))))))
      (pss_cons (ps_if (pt_cmpR op_lt (pv 2) pe_int (nomark _)) pss_never pss_nil)
      (pss_cons (ps_asg (pe_tup (pa_cons (pv 3) (pa_cons (pv 4) (pa_cons (pv 5) (pa_cons (pv 6) (pa_cons (pv 2) pa_nil)))))) (pg_sub (pe_fld (pv 0) rfl) (pv 1) set_list))
      (pss_one (ps_ret (pe_cmpR op_ne (pv 2) (pv 7) (nomark _)))))), ?_⟩
    refine ⟨_, rfl, h, dx, _, rfl, e, nB, _, rfl, h, l1, l2, names, bs, i, b, rfl, A, hi, fun a ha => ?_⟩
    refine ⟨a, _, rfl, SqT.of ha, rfl, _, _, rfl, _, _, rfl, _, _, rfl, _, _, rfl, _, _, rfl, rfl, ?_⟩
    refine ⟨_, rfl, _, _, rfl, rfl, _, rfl, ?_⟩
    show if decide ((z : Int) < 0) = true then _ else _
    rw [if_neg (not_lt0 _)]
    refine ⟨_, rfl, _, rfl, _, rfl, _, rfl, _, rfl, small_line (by show 5 ≤ 100000; omega), fun c hc => ?_⟩
    have f1 : Fr [] H (upd H c (.tup (bV (withSt b z)))) := Fr.n0 hc
    have e3 := f1.at_ e2
    refine ⟨_, rfl, h, _, dx, _, _, rfl, f1.at_ e, T.cl_Hall, T.n_Hall_lines, hF_lines _ _, _, rfl, l2, _, _, i, rfl, rfl, e3, Evl.ixN_nat (by rw [rV_len, tp.1]; exact hib), ?_⟩
    refine ⟨_, rfl, _, rfl, rfl, ?_⟩
    have f2 : Fr [l2] (upd H c (.tup (bV (withSt b z)))) (upd (upd H c (.tup (bV (withSt b z)))) l2 (.lst ((rV as).set i (.ref c)))) := (Fr.refl _ _).mutL (.inl (by simp)) e3
    refine q _ _ ⟨⟨dx, f2.kp _ _ (f1.at_ e) (by simpa using A.ne2)⟩, f2.kp _ _ (f1.at_ A.nm) (by simpa using A.ne), ⟨as.set i c, ?_, ?_⟩, A.ne⟩ (f1.nil.trans f2)
    · rw [upd_same]
      unfold rV
      rw [List.map_set]
    · exact ((tp.mono f1).put upd_same).mono f2
end
end RH
/-! Floors: what lies on the belts. -/
namespace RH
open PySem PySem.Spec PyProof.Rows L2
/-- enough lies for a work -/
def Enough (bs : List Belt) (xs : List Nat) (k : Nat) : Prop := ∀ (i : Nat) (b : Belt) (x : Nat), bs[i]? = some b → xs[i]? = some x → b.t = k → b.tk ≤ x
/-- behind a turn -/
def shiftB (k : Nat) (b : Belt) (x : Nat) : Nat := (if b.g = k then (if b.t = k then x - b.tk else x) + b.gv else if b.t = k then x - b.tk else x)
def shiftL (bs : List Belt) (xs : List Nat) (k : Nat) : List Nat := List.zipWith (shiftB k) bs xs
theorem shiftL_len {bs : List Belt} {xs : List Nat} {k : Nat} (h : xs.length = bs.length) : (shiftL bs xs k).length = bs.length := by
  unfold shiftL
  rw [List.length_zipWith, h, Nat.min_self]
theorem shiftL_at {bs : List Belt} {xs : List Nat} {k i : Nat} {b : Belt} {x : Nat} (h1 : bs[i]? = some b) (h2 : xs[i]? = some x) : (shiftL bs xs k)[i]? = some (shiftB k b x) := by
  unfold shiftL
  rw [List.getElem?_zipWith, h1, h2]
theorem given_all (n : Nat) (v : Nat → V) : Evl.given n (fun _ => true) v = (List.range n).map v := by
  unfold Evl.given
  rw [List.filter_eq_self.mpr (fun _ _ => rfl)]
theorem range_map_len {n : Nat} {α : Type} (v : Nat → α) (xs : List α) (hl : xs.length = n) (h : ∀ i x, xs[i]? = some x → v i = x) : (List.range n).map v = xs := by
  apply List.ext_getElem?
  intro i
  by_cases hi : i < n
  · have e : xs[i]? = some (xs[i]'(by omega)) := List.getElem?_eq_getElem _
    rw [List.getElem?_map, List.getElem?_range hi, e]
    show some (v i) = _
    rw [h i _ e]
  · rw [List.getElem?_eq_none (by simp; omega), List.getElem?_eq_none (by omega)]
theorem et_yes {σ : L2.St} {H : Hp} : Evl.EvT tYes σ H true := fun H1 _ _ q => q H1 (Evl.Ex.refl H1)
section
variable {P : Program} {w : World} {K : PySem.W.Frag} {mg : Str → Option Value} {base : Heap}
open Evl in
/-- a belt's number in its tuple -/
theorem ev_belt {σ : L2.St} {H : Hp} {ta : TE} {a : Addr} {b : Belt} {j : Nat} {v : V} (h : Ev ta σ H (.ref a)) (ht : H a = some (.tup (bV b))) (hv : (bV b)[j]? = some v) : Ev (tOp (rIxT K) ta (tC (.int (j : Int)))) σ H v := ev_ixT h ht hv
def spIsReady : Sp := fun vs H Q _ => ∃ (l h : Addr) (bs : List Belt) (xs : List Nat) (k : Nat), vs = [.ref l, .ref h, nV k] ∧ Bls H l bs ∧ H h = some (.lst (nVs xs)) ∧ xs.length = bs.length ∧ Enough bs xs k ∧ RV (.bl true) H Q
theorem sc_is_ready : FnScope ["lines", "heap", "work", "line", "lies"] ["lines", "heap", "work"] (defScope s_is_ready) := ⟨rfl, rfl, rfl, by decide +kernel, rfl, by decide +kernel, by decide +kernel⟩
theorem ok_is_ready (T : Tx K mg) : Okf P w K mg base 1 (He.ga K "is_ready") ["lines", "heap", "work"] spIsReady := by
  refine okf_of T.df_is_ready sc_is_ready (fun _ _ _ _ _ _ us hl => match us, hl with | [_, _, _], _ => rfl) (fun vs H Q E h => ?_) (fun cdv A outer s H vs Q E hr h => ?_)
  · obtain ⟨l, h, bs, xs, k, rfl, _⟩ := h
    rfl
  · obtain ⟨l, h, bs, xs, k, rfl, ⟨as, hl, tp⟩, hh, hlen, he, q⟩ := h
    refine ⟨_, pss_cons (ps_for PassesOwn.never rfl (pi_zip (by rfl) T.b_zip (pa_cons (pv 0) (pa_cons (pv 1) pa_nil)))
        (pg_tup rfl (pgs_cons (pg_name (i := 3) sc_is_ready.nd rfl (.inl rfl)) (pgs_cons (pg_name (i := 4) sc_is_ready.nd rfl (.inl rfl)) pgs_nil)))
        (pss_one (ps_if (PW.pt (pw_and (pt_cmpR op_eq (pe_ix ix_tup (pv 3) pe_int (fun _ _ => rfl)) (pv 2) (nomark _)) (pw_and1 (pt_cmpR op_lt (pv 4) (pe_ix ix_tup (pv 3) pe_int (fun _ _ => rfl)) (nomark _)))))
          (pss_one (ps_ret pe_bl)) pss_nil)))
      (pss_one (ps_ret pe_bl)), ?_⟩
    refine ⟨_, rfl, _, rfl, l, h, _, _, rfl, SqL.of hl, SqL.of hh, RZ.for_zipL (xs := rV as) (ys := nVs xs) (by rw [rV_len, nVs_len, hlen, tp.1]) (fun i σ H' => ∃ v3 v4 : Option V, σ = [some (.ref l), some (.ref h), some (nV k), v3, v4] ∧ Fr [] H H')
      ⟨none, none, rfl, Fr.refl _ _⟩ (fun i σ H' ⟨_, _, _, f⟩ => ⟨f.sq (SqL.of hl), f.sq (SqL.of hh)⟩) ?_ ?_⟩
    · rintro i x y T σ H' hx hy ⟨v3, v4, rfl, f⟩ hT
      obtain ⟨a, ha, rfl⟩ := of_rV hx
      obtain ⟨z, hz, rfl⟩ := of_nVs hy
      obtain ⟨b, hb, hta⟩ := tp.at_ ha
      have f2 : Fr [] H (upd H' T (.tup [.ref a, nV z])) := f.new hT
      refine ⟨T, _, rfl, SqT.of upd_same, rfl, _, _, rfl, _, _, rfl, rfl, ?_⟩
      have h3 := f2.tp _ _ hta
      refine Evl.s_when (D := { nx := _, rt := _, ct := _, bk := _ }) (b := decide (b.t = k) && decide ((z : Int) < (b.tk : Int))) (Evl.et_and (et_eqN (ev_belt (j := 1) (Evl.ev_var rfl) h3 rfl) (Evl.ev_var rfl)) fun _ => et_ltI (Evl.ev_var rfl) (ev_belt (j := 3) (Evl.ev_var rfl) h3 rfl)) (fun hc => ?_) (fun _ H1 e1 => ⟨_, _, rfl, f2.trans (.of_ex e1)⟩)
      obtain ⟨c1, c2⟩ := Bool.and_eq_true_iff.mp hc
      have := he i b z hb hz (of_decide_eq_true c1)
      have := of_decide_eq_true c2
      omega
    · rintro σ H' ⟨v3, v4, rfl, f⟩
      exact q H' f
def spShift : Sp := fun vs H Q _ => ∃ (l h : Addr) (bs : List Belt) (xs : List Nat) (k : Nat), vs = [.ref l, .ref h, nV k] ∧ Bls H l bs ∧ H h = some (.lst (nVs xs)) ∧ xs.length = bs.length ∧ bs.length < 100 ∧ Enough bs xs k ∧ RL (nVs (shiftL bs xs k)) H Q
theorem sc_shift : FnScope ["lines", "heap", "work", "made", "line", "lies"] ["lines", "heap", "work"] (defScope s_shift) := ⟨rfl, rfl, rfl, by decide +kernel, rfl, by decide +kernel, by decide +kernel⟩
theorem take_nVs {ns : List Nat} {i x : Nat} (h : ns[i]? = some x) : nVs (ns.take (i + 1)) = nVs (ns.take i) ++ [nV x] := by
  unfold nVs
  rw [List.take_add_one, h, List.map_append]
  rfl
theorem ok_shift (T : Tx K mg) : Okf P w K mg base 1 (He.ga K "shift") ["lines", "heap", "work"] spShift := by
  refine okf_of T.df_shift sc_shift (fun _ _ _ _ _ _ us hl => match us, hl with | [_, _, _], _ => rfl) (fun vs H Q E h => ?_) (fun cdv A outer s H vs Q E hr h => ?_)
  · obtain ⟨l, h, bs, xs, k, rfl, _⟩ := h
    rfl
  · obtain ⟨l, h, bs, xs, k, rfl, ⟨as, hl, tp⟩, hh, hlen, hsz, he, q⟩ := h
    refine ⟨_, pss_cons (ps_set (i := 3) sc_shift.nd rfl (.inl rfl) (pe_lst pa_nil)) (pss_cons (ps_for PassesOwn.never rfl (pi_zip (by rfl) T.b_zip (pa_cons (pv 0) (pa_cons (pv 1) pa_nil)))
        (pg_tup rfl (pgs_cons (pg_name (i := 4) sc_shift.nd rfl (.inl rfl)) (pgs_cons (pg_name (i := 5) sc_shift.nd rfl (.inl rfl)) pgs_nil)))
        (pss_cons (ps_if (pt_cmpR op_eq (pe_ix ix_tup (pv 4) pe_int (fun _ _ => rfl)) (pv 2) (nomark _)) (pss_one (ps_set (i := 5) sc_shift.nd rfl (.inl rfl) (pe_op op_sub (pv 5) (pe_ix ix_tup (pv 4) pe_int (fun _ _ => rfl))))) pss_nil)
        (pss_cons (ps_if (pt_cmpR op_eq (pe_ix ix_tup (pv 4) pe_int (fun _ _ => rfl)) (pv 2) (nomark _)) (pss_one (ps_set (i := 5) sc_shift.nd rfl (.inl rfl) (pe_op op_add (pv 5) (pe_ix ix_tup (pv 4) pe_int (fun _ _ => rfl))))) pss_nil)
        (pss_one (ps_expr (pe_bm PySem.F.plainAttrs_list PySem.F.slot_list_append PySem.F.type_list_append mt_append (pv 3) (pa_cons (pv 5) pa_nil)))))))
      (pss_one (ps_ret (pv 3)))), ?_⟩
    refine ⟨Nat.zero_le _, fun m hm => ?_⟩
    have f0 : Fr [] H (upd H m (.lst [])) := Fr.n0 hm
    refine ⟨_, rfl, _, rfl, l, h, _, _, rfl, f0.sq (SqL.of hl), f0.sq (SqL.of hh), RZ.for_zipL (xs := rV as) (ys := nVs xs) (by rw [rV_len, nVs_len, hlen, tp.1]) (fun i σ H' => ∃ v3 v4 : Option V, σ = [some (.ref l), some (.ref h), some (nV k), some (.ref m), v3, v4] ∧ Fr [] H H' ∧ H' m = some (.lst (nVs ((shiftL bs xs k).take i))))
      ⟨none, none, rfl, f0, upd_same⟩ (fun i σ H' ⟨_, _, _, f, _⟩ => ⟨f.sq (SqL.of hl), f.sq (SqL.of hh)⟩) ?_ ?_⟩
    · rintro i x y T σ H' hx hy ⟨v3, v4, rfl, f, em⟩ hT
      obtain ⟨a, ha, rfl⟩ := of_rV hx
      obtain ⟨z, hz, rfl⟩ := of_nVs hy
      obtain ⟨b, hb, hta⟩ := tp.at_ ha
      have hib := (List.getElem?_eq_some_iff.mp hb).1
      have f2 : Fr [] H (upd H' T (.tup [.ref a, nV z])) := f.new hT
      have f12 : Fr [] H' (upd H' T (.tup [.ref a, nV z])) := Fr.n0 hT
      refine ⟨T, _, rfl, SqT.of upd_same, rfl, _, _, rfl, _, _, rfl, rfl, ?_⟩
      have h3 := f2.tp _ _ hta
      have hm3 := f12.at_ em
      generalize upd H' T (.tup [.ref a, nV z]) = H3 at f2 h3 hm3 ⊢
      refine Evl.q_ifAsg (b := decide (b.t = k)) (v := nV (if b.t = k then z - b.tk else z)) (et_eqN (ev_belt (j := 1) (Evl.ev_var rfl) h3 rfl) (Evl.ev_var rfl)) (fun hc => ?_) (fun hc => ?_) (fun H4 e4 => ?_)
      · have hbt := of_decide_eq_true hc
        have hle := he i b z hb hz hbt
        refine Evl.ev_is (ev_sub (Evl.ev_var rfl) (ev_belt (j := 3) (Evl.ev_var rfl) h3 rfl)) ?_
        rw [if_pos hbt]
        show V.int ((z : Int) - (b.tk : Int)) = _
        rw [← Int.natCast_sub hle]
      · rw [if_neg (of_decide_eq_false hc)]
        rfl
      · have f4 := f2.trans (.of_ex e4)
        have h4 := f4.tp _ _ hta
        have hm4 := e4 _ _ hm3
        refine Evl.q_ifAsg (b := decide (b.g = k)) (v := nV (shiftB k b z)) (et_eqN (ev_belt (j := 0) (Evl.ev_var rfl) h4 rfl) (Evl.ev_var rfl)) (fun hc => ?_) (fun hc => ?_) (fun H5 e5 => ?_)
        · refine Evl.ev_is (ev_add (Evl.ev_var rfl) (ev_belt (j := 2) (Evl.ev_var rfl) h4 rfl)) ?_
          unfold shiftB
          rw [if_pos (of_decide_eq_true hc)]
          exact congrArg V.int (Int.natCast_add _ _).symm
        · unfold shiftB
          rw [if_neg (of_decide_eq_false hc)]
          rfl
        · have f5 := f4.trans (.of_ex e5)
          have hm5 := e5 _ _ hm4
          have hs := shiftL_at (k := k) hb hz
          refine ⟨_, rfl, .inl ⟨rfl, _, SqL.of hm5⟩, _, rfl, m, _, _, rfl, rfl, hm5, ?_, some (.ref a), some (nV (shiftB k b z)), rfl, f5.mutL (.inr hm) hm5, ?_⟩
          · rw [nVs_len, List.length_take]
            exact small_line' (by omega)
          · rw [upd_same, take_nVs hs]
    · rintro σ H' ⟨v3, v4, rfl, f, em⟩
      refine ⟨_, rfl, ?_⟩
      rw [List.take_of_length_le (by rw [rV_len, shiftL_len hlen, tp.1]; exact Nat.le_refl _)] at em
      exact q m H' hm f em
/-! ### the class -/
theorem ne_ml : ("many" : Str) ≠ "lines" := by decide +kernel
theorem ne_lm : ("lines" : Str) ≠ "many" := by decide +kernel
theorem ne_lh : ("lines" : Str) ≠ "heap" := by decide +kernel
theorem ne_hl : ("heap" : Str) ≠ "lines" := by decide +kernel
theorem ne_mh : ("many" : Str) ≠ "heap" := by decide +kernel
theorem ne_hm : ("heap" : Str) ≠ "many" := by decide +kernel
def fF (ll : Addr) (many : Nat) (lh : Addr) : List (Str × V) := [("lines", .ref ll), ("many", nV many), ("heap", .ref lh)]
section
variable (ll : Addr) (many : Nat) (lh : Addr)
theorem fF_lines : (fF ll many lh).lookup ("lines" : Str) = some (.ref ll) := look_eq _ _ _
theorem fF_many : (fF ll many lh).lookup ("many" : Str) = some (nV many) := by
  unfold fF
  rw [look_ne ne_ml, look_eq]
theorem fF_heap : (fF ll many lh).lookup ("heap" : Str) = some (.ref lh) := by
  unfold fF
  rw [look_ne ne_hl, look_ne ne_hm, look_eq]
theorem fF_no {m : Str} (h1 : m ≠ "lines") (h2 : m ≠ "many") (h3 : m ≠ "heap") : (fF ll many lh).lookup m = none := by
  unfold fF
  rw [look_ne h1, look_ne h2, look_ne h3]
  rfl
theorem fF_put (l2 : Addr) : putF "heap" (.ref l2) (fF ll many lh) = fF ll many l2 := by
  unfold fF
  rw [putF_ne ne_lh, putF_ne ne_mh, putF_eq]
end
structure FloorAt (K : PySem.W.Frag) (H : Hp) (p ll lh : Addr) (many : Nat) (bs : List Belt) (xs : List Nat) : Prop where
  ob : ∃ dx, H p = some (.ins (He.ga K "Floor") dx (fF ll many lh))
  bl : Bls H ll bs
  hp : H lh = some (.lst (nVs xs))
  len : xs.length = bs.length
section
variable {H H' : Hp} {p ll lh : Addr} {many : Nat} {bs : List Belt} {xs : List Nat} {S : List Addr}
theorem FloorAt.kept (A : FloorAt K H p ll lh many bs xs) (x : Fr S H H') (h0 : p ∉ S) (h1 : ll ∉ S) (h2 : lh ∉ S) : FloorAt K H' p ll lh many bs xs :=
  ⟨let ⟨dx, e⟩ := A.ob; ⟨dx, x.kp _ _ e h0⟩, A.bl.kept x h1, x.kp _ _ A.hp h2, A.len⟩
theorem FloorAt.keep (A : FloorAt K H p ll lh many bs xs) (x : Fr [] H H') : FloorAt K H' p ll lh many bs xs := A.kept x (by simp) (by simp) (by simp)
theorem FloorAt.ne1 (A : FloorAt K H p ll lh many bs xs) : p ≠ ll := by
  obtain ⟨dx, e⟩ := A.ob
  obtain ⟨as, e2, _⟩ := A.bl
  exact ne_of e e2 (by intro z; cases z)
theorem FloorAt.ne2 (A : FloorAt K H p ll lh many bs xs) : p ≠ lh := by
  obtain ⟨dx, e⟩ := A.ob
  exact ne_of e A.hp (by intro z; cases z)
end
def spFloorInit (K : PySem.W.Frag) : Sp := fun vs H Q _ => ∃ (p dx h l1 l2 : Addr) (names : List Str) (bs : List Belt), vs = [.ref p, .ref h] ∧ H p = some (.ins (He.ga K "Floor") dx []) ∧ HallAt K H h l1 l2 names bs ∧ bs.length < 100 ∧
  ∀ (H' : Hp) (ll lh : Addr), FloorAt K H' p ll lh names.length bs (bs.map (·.st)) → Fr [p] H H' → Q .non H'
theorem sc_Floor_init : FnScope ["self", "hall", "line"] ["self", "hall"] (defScope s_Floor_init) := ⟨rfl, rfl, rfl, by decide +kernel, rfl, by decide +kernel, by decide +kernel⟩
theorem ok_Floor_init (T : Tx K mg) : Okf P w K mg base 2 (He.ma K (He.ga K "Floor") "__init__") ["self", "hall"] (spFloorInit K) := by
  obtain ⟨fN, GN, kN, bN⟩ := ok_Hall_names (P := P) (w := w) (base := base) T
  obtain ⟨fB, GB, kB, bB⟩ := ok_Hall_belts (P := P) (w := w) (base := base) T
  refine okf_of T.df_Floor_init sc_Floor_init (fun _ _ _ _ _ _ us hl => match us, hl with | [_, _], _ => rfl) (fun vs H Q E h => ?_) (fun cdv A outer s H vs Q E hr h => ?_)
  · obtain ⟨p, dx, h, l1, l2, names, bs, rfl, _⟩ := h
    rfl
  · obtain ⟨p, dx, h, l1, l2, names, bs, rfl, hp, A, hsz, q⟩ := h
    obtain ⟨dh, eh⟩ := A.ob
    have nN : (hF l1 l2).lookup ("names" : Str) = none := hF_no _ _ (by decide +kernel) (by decide +kernel)
    have nB : (hF l1 l2).lookup ("belts" : Str) = none := hF_no _ _ (by decide +kernel) (by decide +kernel)
    have hph : h ≠ p := fun e => by
      rw [e, hp] at eh
      have e2 := HO.ins.inj (Option.some.inj eh)
      exact absurd e2.2.2 (by unfold hF; simp)
    refine ⟨_, pss_cons (ps_fld (pv 0) (pe_meth0 (pv 1) T.cl_Hall T.m_Hall_belts GB hr bB .nil pass0) rfl) (pss_cons (ps_fld (pv 0) (pe_callB call_len_seq (by rfl) T.b_len PySem.boot_len (pa_cons (pe_meth0 (pv 1) T.cl_Hall T.m_Hall_names GN hr bN .nil pass0) pa_nil)) rfl)
      (pss_one (ps_fld (pv 0) (pe_lc (own := [("line", 2)]) (g := gName 2) (tt := tYes) (te := tOp (rIxT K) (tVar 2) (tC (.int 4))) rfl sc_Floor_init.nd (pi_list (pe_fld (pv 0) rfl)) (blkOk_by (own := [("line", 2)]) (N := ["self", "hall", "line"]) (sc := defScope s_Floor_init) (by decide +kernel)) (fun _ _ _ _ _ => pg_name (i := 2) sc_Floor_init.nd rfl (Or.inl rfl)) (fun _ _ _ _ _ => pts_nil)
          (fun _ _ _ _ _ => pe_ix ix_tup (pv 2) pe_int (fun _ _ => rfl))) rfl))), ?_⟩
    refine ⟨_, rfl, h, dh, _, rfl, eh, nB, h, l1, l2, names, bs, rfl, A, fun ll H1 hll f1 hb1 => ?_⟩
    have e1 := f1.at_ hp
    have g1 : Fr [p] H (upd H1 p (.ins (He.ga K "Floor") dx (putF "lines" (.ref ll) []))) := f1.nil.mutI (.inl (by simp)) e1
    refine ⟨_, rfl, p, _, dx, [], rfl, e1, T.cl_Floor, T.n_Floor_lines, (by show 0 < 1000; decide), ?_⟩
    have npl : p ≠ ll := ne_of_none hp hll
    have f1p : Fr [p] H1 (upd H1 p (.ins (He.ga K "Floor") dx (putF "lines" (.ref ll) []))) := (Fr.refl _ H1).mutI (.inl (by simp)) e1
    have hl1 : l1 ≠ p := (fun e => by have := A.nm; rw [e, hp] at this; cases this)
    have hl2 : l2 ≠ p := (fun e => by obtain ⟨as, z, _⟩ := A.bl; rw [e, hp] at z; cases z)
    have A1 : HallAt K (upd H1 p (.ins (He.ga K "Floor") dx (putF "lines" (.ref ll) []))) h l1 l2 names bs := (A.keep f1).kept f1p (by simpa using hph) (by simpa using hl1) (by simpa using hl2)
    have hb2 : Bls (upd H1 p (.ins (He.ga K "Floor") dx (putF "lines" (.ref ll) []))) ll bs := hb1.kept f1p (by simpa using npl.symm)
    have ep : (upd H1 p (.ins (He.ga K "Floor") dx (putF "lines" (.ref ll) []))) p = some (.ins (He.ga K "Floor") dx (putF "lines" (.ref ll) [])) := upd_same
    generalize upd H1 p (.ins (He.ga K "Floor") dx (putF "lines" (.ref ll) [])) = H2 at g1 A1 hb2 ep ⊢
    obtain ⟨dh2, eh2⟩ := A1.ob
    refine ⟨_, rfl, h, dh2, _, rfl, eh2, nN, h, l1, l2, names, bs, rfl, A1, fun ln H3 hln f3 en => ?_⟩
    refine ⟨ln, _, rfl, .inl (SqL.of en), ?_⟩
    have e3 := f3.at_ ep
    refine ⟨_, rfl, p, _, dx, _, rfl, e3, T.cl_Floor, T.n_Floor_many, (by show 1 < 1000; decide), ?_⟩
    have f3p : Fr [p] H3 (upd H3 p (.ins (He.ga K "Floor") dx (putF "many" (.int (((names.map V.str).length : Nat) : Int)) (putF "lines" (.ref ll) [])))) := (Fr.refl _ H3).mutI (.inl (by simp)) e3
    have g4 := (g1.trans f3.nil).trans f3p
    obtain ⟨as, hl, tp⟩ := (hb2.kept f3 (by simp)).kept f3p (by simpa using npl.symm)
    have ep4 : (upd H3 p (.ins (He.ga K "Floor") dx (putF "many" (.int (((names.map V.str).length : Nat) : Int)) (putF "lines" (.ref ll) [])))) p = some (.ins (He.ga K "Floor") dx (putF "many" (.int (((names.map V.str).length : Nat) : Int)) (putF "lines" (.ref ll) []))) := upd_same
    rw [List.length_map, putF_nil, putF_ne ne_lm, putF_nil] at g4 ep4 hl tp ⊢
    generalize upd H3 p (.ins (He.ga K "Floor") dx [("lines", .ref ll), ("many", .int ((names.length : Nat) : Int))]) = H4 at g4 ep4 hl tp ⊢
    refine s_fldL (Evl.el_lcL (xs := rV as) (fun _ => true) (fun i => nV (nth (bs.map (·.st)) i)) (ev_fld (Evl.ev_var rfl) ep4 T.cl_Floor T.n_Floor_lines (look_eq _ _ _)) (SqL.of hl) (by rw [rV_len, tp.1]; omega) (fun _ => by rfl) (fun _ _ _ _ _ => et_yes) (fun i v H5 e5 hv _ => ?_)) rfl ep4 T.cl_Floor T.n_Floor_heap (by show 2 < 1000; decide) (fun lh H6 hlh f6 eh6 e7 => ?_)
    · obtain ⟨a, ha, rfl⟩ := of_rV hv
      obtain ⟨b, hb, hta⟩ := tp.at_ ha
      refine ev_belt (j := 4) (Evl.ev_var rfl) (e5 _ _ hta) ?_
      rw [nth_of (x := b.st) (by rw [List.getElem?_map, hb]; rfl)]
      rfl
    · have f7 : Fr [p] H6 (upd H6 p (.ins (He.ga K "Floor") dx (putF "heap" (.ref lh) [("lines", .ref ll), ("many", .int ((names.length : Nat) : Int))]))) := (Fr.refl _ H6).mutI (.inl (by simp)) e7
      have nph : lh ≠ p := fun e => by rw [e, e7] at eh6; cases eh6
      refine q _ ll lh ⟨⟨dx, ?_⟩, ⟨as, ?_, (tp.mono f6).mono f7⟩, ?_, by rw [List.length_map]⟩ ((g4.trans f6.nil).trans f7)
      · rw [upd_same, putF_ne ne_lh, putF_ne ne_mh, putF_nil]
        rfl
      · exact f7.kp _ _ (f6.at_ hl) (by simpa using npl.symm)
      · rw [upd_ne nph, eh6, given_all]
        have e8 : (List.range (rV as).length).map (fun i => nV (nth (bs.map (·.st)) i)) = nVs (bs.map (·.st)) := by
          refine range_map_len _ _ (by rw [nVs_len, List.length_map, rV_len, tp.1]) fun i x hx => ?_
          obtain ⟨y, hy, rfl⟩ := of_nVs hx
          rw [nth_of hy]
        rw [e8]
def spNeedWork (K : PySem.W.Frag) : Sp := fun vs H Q _ => ∃ (p ll lh : Addr) (many : Nat) (bs : List Belt) (xs : List Nat) (k : Nat), vs = [.ref p, nV k] ∧ FloorAt K H p ll lh many bs xs ∧ k < many ∧ Q .non H
theorem sc_Floor_need_work : FnScope ["self", "work"] ["self", "work"] (defScope s_Floor_need_work) := ⟨rfl, rfl, rfl, by decide +kernel, rfl, by decide +kernel, by decide +kernel⟩
theorem ok_Floor_need_work (T : Tx K mg) : Okf P w K mg base 1 (He.ma K (He.ga K "Floor") "need_work") ["self", "work"] (spNeedWork K) := by
  refine okf_of T.df_Floor_need_work sc_Floor_need_work (fun _ _ _ _ _ _ us hl => match us, hl with | [_, _], _ => rfl) (fun vs H Q E h => ?_) (fun cdv A outer s H vs Q E hr h => ?_)
  · obtain ⟨p, ll, lh, many, bs, xs, k, rfl, _⟩ := h
    rfl
  · obtain ⟨p, ll, lh, many, bs, xs, k, rfl, A, hk, q⟩ := h
    obtain ⟨dx, e⟩ := A.ob
    refine ⟨_, pss_one (ps_if (pt_not (pt_chain op_le op_lt pe_int (pv 1) (pe_fld (pv 0) rfl))) pss_never pss_nil), ?_⟩
    refine ⟨_, rfl, _, _, rfl, rfl, _, rfl, ?_⟩
    show if decide ((0 : Int) ≤ (k : Int)) = true then _ else _
    rw [le_nat]
    have e2 : decide ((k : Int) < (many : Int)) = true := decide_eq_true (by omega)
    refine iteT ?_
    refine ⟨_, rfl, p, _, dx, _, _, rfl, e, T.cl_Floor, T.n_Floor_many, fF_many _ _ _, _, _, rfl, rfl, _, rfl, ?_⟩
    show if (!decide ((k : Int) < (many : Int))) = true then _ else _
    rw [e2]
    exact iteF q
def spReady (K : PySem.W.Frag) : Sp := fun vs H Q _ => ∃ (p ll lh : Addr) (many : Nat) (bs : List Belt) (xs : List Nat) (k : Nat), vs = [.ref p, nV k] ∧ FloorAt K H p ll lh many bs xs ∧ k < many ∧ Enough bs xs k ∧ RV (.bl true) H Q
theorem sc_Floor_ready : FnScope ["self", "work"] ["self", "work"] (defScope s_Floor_ready) := ⟨rfl, rfl, rfl, by decide +kernel, rfl, by decide +kernel, by decide +kernel⟩
theorem ok_Floor_ready (T : Tx K mg) : Okf P w K mg base 2 (He.ma K (He.ga K "Floor") "ready") ["self", "work"] (spReady K) := by
  obtain ⟨fN, GN, kN, bN⟩ := ok_Floor_need_work (P := P) (w := w) (base := base) T
  obtain ⟨fR, GR, kR, bR⟩ := ok_is_ready (P := P) (w := w) (base := base) T
  refine okf_of T.df_Floor_ready sc_Floor_ready (fun _ _ _ _ _ _ us hl => match us, hl with | [_, _], _ => rfl) (fun vs H Q E h => ?_) (fun cdv A outer s H vs Q E hr h => ?_)
  · obtain ⟨p, ll, lh, many, bs, xs, k, rfl, _⟩ := h
    rfl
  · obtain ⟨p, ll, lh, many, bs, xs, k, rfl, A, hk, he, q⟩ := h
    obtain ⟨dx, e⟩ := A.ob
    have nN : (fF ll many lh).lookup ("need_work" : Str) = none := fF_no _ _ _ (by decide +kernel) (by decide +kernel) (by decide +kernel)
    refine ⟨_, pss_cons (ps_expr (pe_meth (pv 0) T.cl_Floor T.m_Floor_need_work GN hr bN .nil pass0 (pa_cons (pv 1) pa_nil)))
      (pss_one (ps_ret (pe_call GR hr (by rfl) T.g_is_ready kR bR .nil pass0 (pa_cons (pe_fld (pv 0) rfl) (pa_cons (pe_fld (pv 0) rfl) (pa_cons (pv 1) pa_nil)))))), ?_⟩
    refine ⟨_, rfl, p, dx, _, rfl, e, nN, _, rfl, p, ll, lh, many, bs, xs, k, rfl, A, hk, ?_⟩
    exact ⟨_, rfl, p, _, dx, _, _, rfl, e, T.cl_Floor, T.n_Floor_lines, fF_lines _ _ _, _, rfl, p, _, dx, _, _, rfl, e, T.cl_Floor, T.n_Floor_heap, fF_heap _ _ _, _, rfl, ll, lh, bs, xs, k, rfl, A.bl, A.hp, A.len, he, q⟩
def spGo (K : PySem.W.Frag) : Sp := fun vs H Q _ => ∃ (p ll lh : Addr) (many : Nat) (bs : List Belt) (xs : List Nat) (k : Nat) (r : Addr), vs = [.ref p, .ref r] ∧ FloorAt K H p ll lh many bs xs ∧ H r = some (.lst [nV k]) ∧ k < many ∧ bs.length < 100 ∧ Enough bs xs k ∧
  ∀ (H' : Hp) (lh' : Addr), H lh' = none → FloorAt K H' p ll lh' many bs (shiftL bs xs k) → Fr [p] H H' → Q .non H'
theorem sc_Floor_go : FnScope ["self", "row", "heap", "work"] ["self", "row"] (defScope s_Floor_go) := ⟨rfl, rfl, rfl, by decide +kernel, rfl, by decide +kernel, by decide +kernel⟩
theorem ok_Floor_go (T : Tx K mg) : Okf P w K mg base 2 (He.ma K (He.ga K "Floor") "go") ["self", "row"] (spGo K) := by
  obtain ⟨fN, GN, kN, bN⟩ := ok_Floor_need_work (P := P) (w := w) (base := base) T
  obtain ⟨fR, GR, kR, bR⟩ := ok_is_ready (P := P) (w := w) (base := base) T
  obtain ⟨fS, GS, kS, bS⟩ := ok_shift (P := P) (w := w) (base := base) T
  refine okf_of T.df_Floor_go sc_Floor_go (fun _ _ _ _ _ _ us hl => match us, hl with | [_, _], _ => rfl) (fun vs H Q E h => ?_) (fun cdv A outer s H vs Q E hr h => ?_)
  · obtain ⟨p, ll, lh, many, bs, xs, k, r, rfl, _⟩ := h
    rfl
  · obtain ⟨p, ll, lh, many, bs, xs, k, r, rfl, A, hrow, hk, hsz, he, q⟩ := h
    obtain ⟨dx, e⟩ := A.ob
    have nN : (fF ll many lh).lookup ("need_work" : Str) = none := fF_no _ _ _ (by decide +kernel) (by decide +kernel) (by decide +kernel)
    refine ⟨_, pss_cons (ps_set (i := 2) sc_Floor_go.nd rfl (.inl rfl) (pe_fld (pv 0) rfl)) (pss_cons (ps_for PassesOwn.never rfl (pi_list (pv 1)) (pg_name (i := 3) sc_Floor_go.nd rfl (.inl rfl))
        (pss_cons (ps_expr (pe_meth (pv 0) T.cl_Floor T.m_Floor_need_work GN hr bN .nil pass0 (pa_cons (pv 3) pa_nil)))
        (pss_cons (ps_if (pt_not (pt_val (pe_call GR hr (by rfl) T.g_is_ready kR bR .nil pass0 (pa_cons (pe_fld (pv 0) rfl) (pa_cons (pv 2) (pa_cons (pv 3) pa_nil)))))) pss_never pss_nil)
        (pss_one (ps_set (i := 2) sc_Floor_go.nd rfl (.inl rfl) (pe_call GS hr (by rfl) T.g_shift kS bS .nil pass0 (pa_cons (pe_fld (pv 0) rfl) (pa_cons (pv 2) (pa_cons (pv 3) pa_nil)))))))))
      (pss_one (ps_fld (pv 0) (pe_callTy call_list_of (by rfl) T.b_list (by decide +kernel) (pa_cons (pv 2) pa_nil)) rfl))), ?_⟩
    refine ⟨_, rfl, p, _, dx, _, _, rfl, e, T.cl_Floor, T.n_Floor_heap, fF_heap _ _ _, ?_⟩
    refine ⟨_, rfl, r, rfl, ⟨_, SqL.of hrow⟩, for_list (K := K) (a := r) (xs := [nV k]) (fun i σ H' => ∃ (hp : Addr) (v3 : Option V), σ = [some (.ref p), some (.ref r), some (.ref hp), v3] ∧ Fr [] H H' ∧ H' hp = some (.lst (nVs (if i = 0 then xs else shiftL bs xs k))) ∧ (i = 0 → hp = lh))
      ⟨lh, none, rfl, Fr.refl _ _, A.hp, fun _ => rfl⟩ (fun i σ H' _ ⟨_, _, _, f, _⟩ => SqL.of (f.at_ hrow)) ?_ ?_⟩
    · rintro i y σ H1 hi ⟨hp, v3, rfl, f1, e1, e0⟩
      have hi1 := (List.getElem?_eq_some_iff.mp hi).1
      have i0 : i = 0 := by simp at hi1; exact hi1
      subst i0
      have ehp := e0 rfl
      subst ehp
      have ey : nV k = y := Option.some.inj hi
      subst ey
      have A1 := A.keep f1
      obtain ⟨dx1, ed1⟩ := A1.ob
      refine ⟨_, rfl, p, dx1, _, rfl, ed1, nN, _, rfl, p, ll, hp, many, bs, xs, k, rfl, A1, hk, ?_⟩
      refine ⟨_, rfl, p, _, dx1, _, _, rfl, ed1, T.cl_Floor, T.n_Floor_lines, fF_lines _ _ _, _, rfl, _, rfl, ll, hp, bs, xs, k, rfl, A1.bl, A1.hp, A1.len, he, fun H2 f2 => ⟨_, rfl, iteF ?_⟩⟩
      have A2 := A1.keep f2
      obtain ⟨dx2, ed2⟩ := A2.ob
      refine ⟨_, rfl, p, _, dx2, _, _, rfl, ed2, T.cl_Floor, T.n_Floor_lines, fF_lines _ _ _, _, rfl, _, rfl, ll, hp, bs, xs, k, rfl, A2.bl, A2.hp, A2.len, hsz, he, fun m H3 hm f3 e3 => ?_⟩
      exact ⟨m, some (nV k), rfl, (f1.trans f2).trans f3, e3, fun z => by omega⟩
    · rintro σ H1 ⟨hp, v3, rfl, f1, e1, e0⟩
      have A1 := A.keep f1
      obtain ⟨dx1, ed1⟩ := A1.ob
      refine ⟨_, rfl, hp, _, rfl, .inl (SqL.of e1), fun m hm => ?_⟩
      have f2 : Fr [] H1 (upd H1 m (.lst (nVs (if [nV k].length = 0 then xs else shiftL bs xs k)))) := Fr.n0 hm
      have ed2 := f2.at_ ed1
      refine ⟨_, rfl, p, _, dx1, _, rfl, ed2, T.cl_Floor, T.n_Floor_heap, (by show 3 < 1000; decide), ?_⟩
      have A2 := A1.keep f2
      have em : (upd H1 m (.lst (nVs (if [nV k].length = 0 then xs else shiftL bs xs k)))) m = some (.lst (nVs (shiftL bs xs k))) := upd_same
      generalize upd H1 m (.lst (nVs (if [nV k].length = 0 then xs else shiftL bs xs k))) = H2 at f2 ed2 A2 em ⊢
      rw [fF_put]
      have f3 : Fr [p] H2 (upd H2 p (.ins (He.ga K "Floor") dx1 (fF ll many m))) := (Fr.refl _ H2).mutI (.inl (by simp)) ed2
      have nm : m ≠ p := fun z => by rw [z, ed2] at em; cases em
      exact q _ m (f1.free hm) ⟨⟨dx1, upd_same⟩, A2.bl.kept f3 (by simpa using A2.ne1.symm), (by rw [upd_ne nm]; exact em), shiftL_len A.len⟩ ((f1.trans f2).nil.trans f3)
def spTurn (K : PySem.W.Frag) : Sp := fun vs H Q _ => ∃ (p ll lh : Addr) (many : Nat) (bs : List Belt) (xs : List Nat) (k : Nat), vs = [.ref p, nV k] ∧ FloorAt K H p ll lh many bs xs ∧ k < many ∧ bs.length < 100 ∧ Enough bs xs k ∧
  ∀ (H' : Hp) (lh' : Addr), H lh' = none → FloorAt K H' p ll lh' many bs (shiftL bs xs k) → Fr [p] H H' → Q .non H'
theorem sc_Floor_turn : FnScope ["self", "work"] ["self", "work"] (defScope s_Floor_turn) := ⟨rfl, rfl, rfl, by decide +kernel, rfl, by decide +kernel, by decide +kernel⟩
theorem ok_Floor_turn (T : Tx K mg) : Okf P w K mg base 3 (He.ma K (He.ga K "Floor") "turn") ["self", "work"] (spTurn K) := by
  obtain ⟨fG, GG, kG, bG⟩ := ok_Floor_go (P := P) (w := w) (base := base) T
  refine okf_of T.df_Floor_turn sc_Floor_turn (fun _ _ _ _ _ _ us hl => match us, hl with | [_, _], _ => rfl) (fun vs H Q E h => ?_) (fun cdv A outer s H vs Q E hr h => ?_)
  · obtain ⟨p, ll, lh, many, bs, xs, k, rfl, _⟩ := h
    rfl
  · obtain ⟨p, ll, lh, many, bs, xs, k, rfl, A, hk, hsz, he, q⟩ := h
    obtain ⟨dx, e⟩ := A.ob
    have nG : (fF ll many lh).lookup ("go" : Str) = none := fF_no _ _ _ (by decide +kernel) (by decide +kernel) (by decide +kernel)
    refine ⟨_, pss_one (ps_expr (pe_meth (pv 0) T.cl_Floor T.m_Floor_go GG hr bG .nil pass0 (pa_cons (pe_lst (pa_cons (pv 1) pa_nil)) pa_nil))), ?_⟩
    refine ⟨_, rfl, p, dx, _, rfl, e, nG, _, rfl, small_line (by show 1 ≤ 100000; omega), fun r hr' => ?_⟩
    exact ⟨p, ll, lh, many, bs, xs, k, r, rfl, A.keep (Fr.n0 hr'), upd_same, hk, hsz, he, fun H' lh' h0 A' f => q H' lh' ((Fr.n0 hr').free h0) A' ((Fr.n0 hr').nil.trans f)⟩
end
end RH
/-! Rules that the layer has not: xs[i] op= e, sorted(a dict of whole numbers), list(reversed(a list)). -/
namespace RH
open PySem PySem.Spec PyProof.Rows L2
section
variable {X : Cx}
/-! ### xs[i] as it stands in xs[i] op= e, i from 0 on -/
def rGetL (K : PySem.W.Frag) : V → V → Hp → VK → Prop := fun x y H Q => ∃ (p : Addr) (xs : List V) (j : Nat) (v : V), x = .ref p ∧ y = nV j ∧ SqL K H p xs ∧ xs[j]? = some v ∧ Q v H
theorem get_list : PGet X (rGetL X.K) := by
  intro pins s σ H o i ov iv Q I ro ri h
  obtain ⟨p, xs, j, v, rfl, rfl, hq, hx, q⟩ := h
  cases ro
  obtain ⟨t, rfl⟩ := ri
  obtain ⟨its, r, pl, hz⟩ := I.list hq
  obtain ⟨u, eu, ru⟩ := r.get hx
  have hj := (List.getElem?_eq_some_iff.mp hx).1
  have hn := line63
  have hs : sizeLine = 16777216 := sizeLine_eq
  exact wpAny_getItem_list pl.isList (by omega) (by omega) (by simpa using eu) ⟨v, H, I, ru, q⟩
/-! ### sorted(d), d a dict of fewer than 64 whole numbers -/
theorem ints_from : ∀ {us : List Value} {ks : List Int}, us.length = ks.length → (∀ (j : Nat) (v : Value), us[j]? = some v → ∃ k, ks[j]? = some k ∧ ∃ t, v = .int k t) → IntsAre us ks
  | [], [], _, _ => .nil
  | [], _ :: _, h, _ => by simp at h
  | _ :: _, [], h, _ => by simp at h
  | u :: us, k :: ks, h, f => by
    obtain ⟨k', e1, t, e2⟩ := f 0 u rfl
    have e3 : k = k' := Option.some.inj e1
    subst e3
    rw [e2]
    exact .cons _ _ (ints_from (by simpa using h) fun j v e => by
      obtain ⟨k2, a, b⟩ := f (j + 1) v (by simpa using e)
      exact ⟨k2, by simpa using a, b⟩)
def rSortedDI : List V → Hp → VK → Prop := fun vs H Q => ∃ (d : Addr) (kvs : List (Key × V)) (ks : List Int), vs = [V.ref d] ∧ Rd H d (.dK kvs) ∧ kvs.map (·.1) = ks.map Sum.inl ∧ ks.length < 64 ∧
  ∀ (ys : List Int) (p : Addr), ys.Perm ks → ys.Pairwise (· ≤ ·) → H p = none → Q (.ref p) (upd H p (.lst (ys.map V.int)))
theorem cr_sortedDI (hcalm : X.calm = true) : CallR X (.builtin "sorted") rSortedDI := by
  intro pins s σ H xs us Q I r h
  obtain ⟨d, kvs, ks, rfl, hd, hks, h64, q⟩ := h
  obtain ⟨u, rfl, ru⟩ := vals1 r
  cases ru
  obtain ⟨hz, hlo, vs, hrel, hdd⟩ := dk_rd I.hok hd
  obtain ⟨ep, hat⟩ := hdd.dictAt
  have ek : vs.map (·.1) = ks.map Sum.inl := hrel.keys.symm.trans hks
  have el : vs.length = ks.length := by
    have e := congrArg List.length ek
    simpa using e
  have hsz : vs.length ≤ sizeLine := by rw [el]; exact small_line (by omega)
  refine Calls.call_function_entry PyProof.Rows.kind_sorted PyProof.Rows.plain_sorted PyProof.Rows.entry_sorted
    (PyProof.Rows.args_sorted1 _) ?_
  unfold Builtin.«sorted»
  refine wpAny_bind (m := checkCount "sorted" 1 1 _) (wpAny_pure (wpAny_bind
    (PySem.W.kdu_collect (A := X.A.in1) (PySem.W.kdl_dict (knd := mixKind X.prog X.w) (kvs := vs) (ep := ep) hlo) (I.ok.hd hcalm) hat hsz fun h1 tk acc hkeep hacc => ?_)))
  have ea : acc.toList.length = ks.length := by rw [Array.length_toList, hacc.1, el]
  have hI : IntsAre acc.toList ks := ints_from ea fun j v e => by
    obtain ⟨k, x, e1, e2⟩ := hacc.2 j v (by rw [← Array.getElem?_toList]; exact e)
    have e3 : (vs.map (·.1))[j]? = some k := by simp [e1]
    rw [ek, List.getElem?_map] at e3
    cases e4 : ks[j]? with
    | none => rw [e4] at e3; cases e3
    | some y =>
      rw [e4] at e3
      have e5 : Sum.inl y = k := Option.some.inj e3
      subst e5
      obtain ⟨t, ev⟩ := Value.isInt_shape (k := y) (v := v) e2
      exact ⟨y, rfl, t, ev⟩
  have I1 : Inv X pins σ H { s with heap := h1, toks := tk } := I.kept hkeep
  refine wpAny_bind (wpAny_newList ?_ (by rw [ea]; exact small_line (by omega)))
  have hoL : (h1.push (seqObj "list" acc.toList.toArray 0)).get? h1.objs.size = some (seqObj "list" acc.toList.toArray 0) := Heap.get?_push_size _ rfl
  show wpAny _ _ _ _ _ { s with heap := h1.push (seqObj "list" acc.toList.toArray 0), toks := tk }
  refine wpAny_bind (wpAny_holding (wpAny_call_entry PyProof.Rows.slot_list_sort ⟨_, hoL, rfl⟩ PyProof.Rows.entry_list_sort
    (PyProof.Rows.list_sort_tree (s := { s with heap := h1.push (seqObj "list" acc.toList.toArray 0), toks := tk }) hoL hI (by rw [ea]; exact h64) fun out ns' g1 g2 g3 => ⟨_, rfl, ?_⟩)
    (PyProof.Rows.args_list_sort _)))
  obtain ⟨e', he'⟩ := PyProof.Rows.sortedHeap_at (vs := acc.toList) (out := out) hoL
  have hlen : (ns'.map V.int).length ≤ sizeLine := by
    rw [List.length_map, g2.length_eq]
    exact small_line (by omega)
  refine wpAny_pure ⟨_, rfl, .ref h1.objs.size, upd H h1.objs.size (.lst (ns'.map V.int)), I1.laid (t' := tk) (fun b u e => ?_) (Nat.le_refl _)
    (show ObjOk X.prog X.w _ _ _ (.lst (ns'.map V.int)) from ⟨hlen, out.toList, e', vals_of_ints g1, he'⟩), rfl, q ns' _ g2 g3 (I1.hok.fresh (Nat.le_refl _))⟩
  have hb : b < h1.objs.size := Heap.lt_size e
  rw [PyProof.Rows.sortedHeap_old (Nat.ne_of_lt hb) (by rw [size_push']; exact Nat.lt_succ_of_lt hb)]
  exact Heap.get?_push_of_some _ e
end
/-! ### list(reversed(xs)) -/
section
variable {prog : Program} {w : World} {A : Around} {E : Value → Shared → Prop} {s : Shared}
/-- a list that is being made takes what a reversed iterator gives -/
theorem extend_rev {R : Result → Shared → Prop} {it l S : Addr} {items : Array Value} {c₀ : Nat} {res : Value} (hh : A.handled = none) (hit : s.heap.IsRevIter it l ((items.size : Int) - 1)) (hl : s.heap.IsList l items) (hne : l ≠ it) (hn : items.size ≤ sizeLine)
    (hS : s.heap.get? S = some { cls := .type "list", data := .seq #[] c₀ }) (hSi : S ≠ it) (hSl : S ≠ l)
    (hR : ∀ (h' : Heap) (tk : Nat) (acc : Array Value) (c' : Nat), (∀ b o, b ≠ it → b ≠ S → s.heap.get? b = some o → h'.get? b = some o) → h'.get? S = some { cls := .type "list", dict := none, data := .seq acc c', slots := #[] } →
      ItemsOf (fun i v => items[items.size - 1 - i]? = some v) acc items.size → R (.ok (.ret res)) { s with heap := h', toks := tk }) :
    wpAny (model prog w) A.in1 (Builtin.List.listExtendWith (.ref S) (.ref it) res)
      (fun fin s' => match fin with | .done f => R (.ok f) s' | .again c' => c'.quiet = true ∧ codeAny (model prog w) A c' R s') (fun e s' => R (.error e) s') s := by
  have W := (Walks.listRev (prog := prog) (w := w) (A := A.in1) hh it l hne items).toS
  have hSf : S ∉ [it, l] := by simp [hSi, hSl]
  have hT : s.TypeIs (.ref it) "list_reverseiterator" := hit.typeIs
  have h1 : Builtin.List.listSameRef (.ref S) (.ref it) = false := by simp [Builtin.List.listSameRef, hSi]
  unfold Builtin.List.listExtendWith
  refine wpAny_bind (wpAny_typeOf hT ?_)
  rw [if_neg (by rw [h1]; decide)]
  refine wpAny_bind (wpAny_pyIter_revIter hit (wpAny_bind (wpAny_holding ?_)))
  unfold Builtin.List.listLengthHint
  refine wpAny_bind (wpAny_specialOf hT RT.nolen_lri ?_)
  show wpAny _ A.in1 (specialOf (Value.ref it) (Str.ofString "__length_hint__") >>= _) _ _ _
  refine wpAny_bind (wpAny_specialOf hT RT.hint_lri ?_)
  generalize hid : ("list_reverseiterator.__length_hint__" : String) = id0
  wp_delta
  rw [show splitId id0 = some ("list_reverseiterator", "__length_hint__") from by subst hid; decide +kernel]
  subst hid
  refine wpAny_bind (wpAny_isInstance (b := true) hT (by rw [isSubtype_type]; kernel_rfl) (wpAny_pure ?_))
  rw [if_neg (by decide)]
  have e0 : ((items.size : Nat) : Int) - 1 - ((0 : Nat) : Int) = (items.size : Int) - 1 := by omega
  refine wpAny_pure ⟨plainId_quiet PySem.F.plain_extend_loop _, codeAny_extend_loopS W hn S hSf res items.size 0 _ _ _ rfl (Nat.zero_le _) ⟨Nat.zero_le _, by rw [e0]; exact hit, hl⟩ hS (ItemsOf.nil _) fun s' acc' c' hm hS' hacc => ?_⟩
  rw [Moved.eq_with hm]
  refine hR s'.heap s'.toks acc' c' (fun b o b1 b2 e => hm.heap b o (fun hmem => ?_) e) hS' hacc
  rcases List.mem_cons.mp hmem with z | z
  · exact b2 z
  · exact b1 (List.mem_singleton.mp z)
theorem call_list_rev {it l : Addr} {items : Array Value} {Q : Value → Shared → Prop} (hh : A.handled = none) (hit : s.heap.IsRevIter it l ((items.size : Int) - 1)) (hl : s.heap.IsList l items) (hne : l ≠ it) (hn : items.size ≤ sizeLine)
    (hQ : ∀ (h' : Heap) (tk : Nat) (acc : Array Value) (c' : Nat), (∀ b o, b ≠ it → s.heap.get? b = some o → h'.get? b = some o) → h'.get? s.heap.objs.size = some { cls := .type "list", dict := none, data := .seq acc c', slots := #[] } →
      ItemsOf (fun i v => items[items.size - 1 - i]? = some v) acc items.size → Q (.ref s.heap.objs.size) { s with heap := h', toks := tk }) :
    wpAny (model prog w) A (call (.type "list") [.ref it]) Q E s := by
  obtain ⟨oi, hoi, _⟩ := id hit
  obtain ⟨ol, hol, _⟩ := id hl
  have hSi : s.heap.objs.size ≠ it := Nat.ne_of_gt (Heap.lt_size hoi)
  have hSl : s.heap.objs.size ≠ l := Nat.ne_of_gt (Heap.lt_size hol)
  refine callType_codes (Q₁ := fun obj s₁ => obj = .ref s.heap.objs.size ∧ s₁ = { s with heap := s.heap.push { cls := .type "list", data := .seq #[] } })
    PySem.F.called_list (PySem.F.typeCall_list_1 _) PySem.F.entry_list_init (code_list_new _ ⟨rfl, rfl⟩) fun obj s₁ h₁ => ?_
  obtain ⟨rfl, rfl⟩ := h₁
  have hS : (s.heap.push { cls := .type "list", data := .seq #[] }).get? s.heap.objs.size = some { cls := .type "list", data := .seq #[] } := Heap.get?_push_size _ rfl
  refine ⟨⟨_, hS, rfl⟩, PySem.F.args_list_init_2 _ _, ?_⟩
  show wpAny _ _ (do let old ← Builtin.List.listItems (.ref s.heap.objs.size)
                     Builtin.List.listUpdate (.ref s.heap.objs.size) (fun _ => #[])
                     letGo old.toList.reverse
                     Builtin.List.listExtendWith (.ref s.heap.objs.size) (.ref it) .none) _ _ _
  refine wpAny_bind ?_
  unfold Builtin.List.listItems
  refine wpAny_bind (wpAny_seqItems hS rfl (wpAny_pure ?_))
  show wpAny _ _ (updateSeq s.heap.objs.size (fun _ => #[]) >>= fun _ => letGo (#[] : Array Value).toList.reverse >>= fun _ => Builtin.List.listExtendWith (.ref s.heap.objs.size) (.ref it) .none) _ _ _
  refine wpAny_bind (wpAny_updateSeq hS rfl ?_)
  have hS2 := Heap.get?_update_self (Obj.mapSeq (fun _ => (#[] : Array Value))) hS rfl
  have oth : ∀ b o, b ≠ s.heap.objs.size → s.heap.get? b = some o → ((s.heap.push { cls := .type "list", data := .seq #[] }).update s.heap.objs.size (Obj.mapSeq (fun _ => (#[] : Array Value)))).get? b = some o :=
    fun b o hb e => (Heap.get?_update_other _ _ (Ne.symm hb)).trans (Heap.get?_push_of_some _ e)
  refine wpAny_bind (wpAny_letGo ?_)
  refine extend_rev (A := A.in1) (items := items) (l := l) hh (hit.at fun o e => oth it o hSi.symm e) ?_ hne hn hS2 hSi hSl fun h' tk acc c' hk hS' hacc => ?_
  · obtain ⟨o, e1, e2⟩ := hl
    exact ⟨o, oth l o hSl.symm e1, e2⟩
  · exact ⟨rfl, hQ h' tk acc c' (fun b o hb e => hk b o hb (Nat.ne_of_lt (Heap.lt_size e)) (oth b o (Nat.ne_of_lt (Heap.lt_size e)) e)) hS' hacc⟩
end
def tLstRev (K : PySem.W.Frag) (te : TE) : TE := fun σ H Q => te σ H fun v H1 => ∃ (a : Addr) (xs : List V), v = .ref a ∧ SqL K H1 a xs ∧ ∀ q, H1 q = none → Q (.ref q) (upd H1 q (.lst xs.reverse))
theorem pe_listRev {X : Cx} {e : Expr} {te : TE} {p p2 pos pos2 : Pos} (hc : X.calm = true) (hg : Gl X "list") (hm : X.mg "list" = none) (hg2 : Gl X "reversed") (hm2 : X.mg "reversed" = none) (he : PE X e te)
    (hs : starEach [e] X.env = (false, eval e X.env) :: starEach [] X.env := by rfl)
    (hs2 : starEach [.Call (.Name "reversed" p2) [e] [] pos2] X.env = (false, eval (.Call (.Name "reversed" p2) [e] [] pos2) X.env) :: starEach [] X.env := by rfl) :
    PE X (.Call (.Name "list" p) [.Call (.Name "reversed" p2) [e] [] pos2] [] pos) (tLstRev X.K te) := by
  refine ⟨fun pins s σ H Q I h => ?_⟩
  refine Call_ (ld_blt I hg hm boot_list (PyProof.Rows.callWith_type1 (args_cons (Call_ (ld_blt I hg2 hm2 PyProof.Rows.boot_reversed
    (PyProof.Rows.callWith_type1 (args_cons (thn (he.run pins s σ H _ I h) fun u s1 ⟨v, H1, I1, r1, q1⟩ => args_nil ?_) hs) hs rfl))) hs2) hs2 rfl))
  obtain ⟨a, xs, rfl, hq, q⟩ := q1
  obtain rfl : u = Value.ref a := r1
  obtain ⟨its, rv, p', hz⟩ := I1.list hq
  refine call_reversed_list p'.isList (args_nil ?_)
  have k0 : ∀ b o, s1.heap.get? b = some o → (s1.heap.push (revObj a ((its.toArray.size : Int) - 1))).get? b = some o := fun b o e => Heap.get?_push_of_some _ e
  have I2 : Inv X pins σ H1 { s1 with heap := s1.heap.push (revObj a ((its.toArray.size : Int) - 1)) } := I1.kept (t' := s1.toks) k0
  obtain ⟨f0, f1, f2, f3, f4, f5⟩ := I1.fpOk (H' := H1) (b := s1.heap.objs.size) (Nat.le_refl _) (I1.hok.fresh (Nat.le_refl _))
  have hl := p'.isList
  obtain ⟨ol, hol, _⟩ := id hl
  have hne : a ≠ s1.heap.objs.size := Nat.ne_of_lt (Heap.lt_size hol)
  have hn : its.toArray.size ≤ sizeLine := by rw [List.size_toArray, ← rv.length]; exact hz
  refine call_list_rev (s := { s1 with heap := s1.heap.push (revObj a ((its.toArray.size : Int) - 1)) }) (I1.ok.hd hc) ⟨_, Heap.get?_push_size _ rfl, rfl, rfl⟩ (hl.push _) hne hn fun h' tk acc c' hk hS hi => ?_
  have ha : (s1.heap.push (revObj a ((its.toArray.size : Int) - 1))).objs.size = s1.heap.objs.size + 1 := Heap.size_push _ _
  have hnone : H1 (s1.heap.push (revObj a ((its.toArray.size : Int) - 1))).objs.size = none := I1.hok.fresh (by rw [ha]; exact Nat.le_succ _)
  refine ⟨.ref (s1.heap.push (revObj a ((its.toArray.size : Int) - 1))).objs.size, upd H1 (s1.heap.push (revObj a ((its.toArray.size : Int) - 1))).objs.size (.lst xs.reverse), ?_, rfl, q _ hnone⟩
  refine I1.laid (t' := tk) (fun b o e => hk b o (Nat.ne_of_lt (Heap.lt_size e)) (k0 b o e)) (by rw [ha]; exact Nat.le_succ _)
    (show ObjOk X.prog X.w _ _ _ (.lst xs.reverse) from ⟨by rw [List.length_reverse]; exact hz, acc.toList, c', RT.vals_rev rv hi, ?_⟩)
  rw [Array.toArray_toList]
  exact hS
/-! ### == and != of numbers in lists and tuples -/
def dI (ns : List Int) : List PyData := ns.map PyData.int
theorem canAll_ints : ∀ ns : List Int, PyData.canLayAll0 (dI ns) = true
  | [] => rfl
  | n :: r => by
    show PyData.canLayAll0 (PyData.int n :: dI r) = true
    simp [PyData.canLayAll0, PyData.canLay0, canAll_ints r]
theorem depth_ints : ∀ ns : List Int, PyData.depthAll (dI ns) ≤ 1
  | [] => by simp [dI, PyData.depthAll]
  | n :: r => by
    have ih := depth_ints r
    show PyData.depthAll (PyData.int n :: dI r) ≤ 1
    simp only [PyData.depthAll, PyData.depth]
    omega
theorem shaped_list (ns : List Int) : SeqAt.shaped (.list (dI ns)) = true := by
  have h := depth_ints ns
  have h2 : (PyData.list (dI ns)).canLay0 = true := by
    rw [PyData.canLay0]
    exact canAll_ints ns
  have h3 : (PyData.list (dI ns)).depth ≤ 64 := by
    rw [PyData.depth]
    omega
  unfold SeqAt.shaped
  rw [h2, decide_eq_true h3]
  rfl
theorem shaped_tup (ns : List Int) : SeqAt.shaped (.tuple (dI ns)) = true := by
  have h := depth_ints ns
  have h2 : (PyData.tuple (dI ns)).canLay0 = true := by
    rw [PyData.canLay0]
    exact canAll_ints ns
  have h3 : (PyData.tuple (dI ns)).depth ≤ 64 := by
    rw [PyData.depth]
    omega
  unfold SeqAt.shaped
  rw [h2, decide_eq_true h3]
  rfl
theorem can_of_shaped {d : PyData} (h : SeqAt.shaped d = true) : d.canLay0 = true := (Bool.and_eq_true_iff.mp h).1
theorem eqv_self {d : PyData} (h : SeqAt.shaped d = true) : PyData.eqv d d = true := SeqAt.eqv_refl d (can_of_shaped h)
theorem dpAll_ints {K : PySem.W.Frag} {H : Hp} : ∀ ns : List Int, DpAll K H (ns.map V.int) (dI ns)
  | [] => .nil
  | n :: r => .cons (.int n) (dpAll_ints r)
section
variable {K : PySem.W.Frag} {H : Hp} {a : Addr}
theorem dp_list {ns : List Nat} (h : H a = some (.lst (nVs ns))) : Dp K H (.ref a) (.list (dI (ns.map fun n : Nat => (n : Int)))) := by
  rw [nVs_eq] at h
  exact .lst (SqL.of h) (dpAll_ints _)
theorem dp_tup {ns : List Nat} (h : H a = some (.tup (nVs ns))) : Dp K H (.ref a) (.tuple (dI (ns.map fun n : Nat => (n : Int)))) := by
  rw [nVs_eq] at h
  exact .tup (SqT.of h) (dpAll_ints _)
end
/-- a != b of two tuples of the same numbers -/
theorem ev_neT {K : PySem.W.Frag} {H : Hp} {ns : List Nat} {a b : Addr} (ha : H a = some (.tup (nVs ns))) (hb : H b = some (.tup (nVs ns))) : Evl.RV (rNeD K) (.ref a) (.ref b) H (.bl false) := fun H1 e Q q =>
  ⟨_, _, dp_tup (e _ _ ha), dp_tup (e _ _ hb), shaped_tup _, shaped_tup _, by rw [eqv_self (shaped_tup _)]; exact q H1 (Evl.Ex.refl H1)⟩
theorem ev_neL {K : PySem.W.Frag} {H : Hp} {ns : List Nat} {a b : Addr} (ha : H a = some (.lst (nVs ns))) (hb : H b = some (.lst (nVs ns))) : Evl.RV (rNeD K) (.ref a) (.ref b) H (.bl false) := fun H1 e Q q =>
  ⟨_, _, dp_list (e _ _ ha), dp_list (e _ _ hb), shaped_list _, shaped_list _, by rw [eqv_self (shaped_list _)]; exact q H1 (Evl.Ex.refl H1)⟩
theorem ev_eqL {K : PySem.W.Frag} {H : Hp} {ns : List Nat} {a b : Addr} (ha : H a = some (.lst (nVs ns))) (hb : H b = some (.lst (nVs ns))) : Evl.RV (rEqD K) (.ref a) (.ref b) H (.bl true) := fun H1 e Q q =>
  ⟨_, _, dp_list (e _ _ ha), dp_list (e _ _ hb), shaped_list _, shaped_list _, by rw [eqv_self (shaped_list _)]; exact q H1 (Evl.Ex.refl H1)⟩
/-- xs == [] -/
theorem eqv_nil (ns : List Nat) : PyData.eqv (.list (dI (ns.map fun n : Nat => (n : Int)))) (.list (dI [])) = ns.isEmpty := by
  cases ns with
  | nil => rfl
  | cons x r =>
    show PyData.eqv (.list (PyData.int x :: _)) (.list []) = false
    simp [PyData.eqv, PyData.eqvAll]
theorem eq_nil_ok {K : PySem.W.Frag} {H : Hp} {ns : List Nat} {a b : Addr} {Q : VK} (ha : H a = some (.lst (nVs ns))) (hb : H b = some (.lst [])) (q : Q (.bl ns.isEmpty) H) : rEqD K (.ref a) (.ref b) H Q :=
  ⟨_, _, dp_list ha, .lst (SqL.of hb) .nil, shaped_list _, shaped_list [], by rw [show PyData.list [] = PyData.list (dI []) from rfl, eqv_nil]; exact q⟩
end RH
/-! Pieces of a hall. -/
namespace RH
open PySem PySem.Spec PyProof.Rows L2
/-! ### dicts by numbers -/
abbrev kN (n : Nat) : Key := Sum.inl (n : Int)
def dF (F : List Nat) (v : Nat → V) : List (Key × V) := F.map fun x => (kN x, v x)
theorem kN_inj {a b : Nat} (h : kN a = kN b) : a = b := by
  have e : (a : Int) = (b : Int) := Sum.inl.inj h
  omega
theorem valV_dF (v : Nat → V) (k : Nat) : ∀ F : List Nat, valV (dF F v) (kN k) = if k ∈ F then some (v k) else none
  | [] => by simp [dF, valV_nil]
  | x :: r => by
    have ih := valV_dF v k r
    show valV ((kN x, v x) :: dF r v) (kN k) = _
    by_cases h : x = k
    · subst h
      rw [valV_pos rfl, if_pos List.mem_cons_self]
    · rw [valV_neg (fun e => h (kN_inj e)), ih]
      by_cases hr : k ∈ r
      · rw [if_pos hr, if_pos (List.mem_cons_of_mem _ hr)]
      · rw [if_neg hr, if_neg fun z => (List.mem_cons.mp z).elim (fun e => h e.symm) hr]
theorem dF_in {F : List Nat} {v : Nat → V} {k : Nat} (h : k ∈ F) : valV (dF F v) (kN k) = some (v k) := by rw [valV_dF, if_pos h]
theorem dF_out {F : List Nat} {v : Nat → V} {k : Nat} (h : k ∉ F) : valV (dF F v) (kN k) = none := by rw [valV_dF, if_neg h]
theorem dF_put {F : List Nat} {v : Nat → V} {k : Nat} {y : V} (h : k ∉ F) : putK (dF F v) (kN k) y = dF (F ++ [k]) (fun x => if x = k then y else v x) := by
  rw [putK_new y (dF_out h)]
  unfold dF
  rw [List.map_append]
  congr 1
  · refine List.map_congr_left fun x hx => ?_
    have : x ≠ k := fun e => h (e ▸ hx)
    simp [this]
  · simp
theorem dF_len (F : List Nat) (v : Nat → V) : (dF F v).length = F.length := by unfold dF; rw [List.length_map]
theorem dF_keys (F : List Nat) (v : Nat → V) : (dF F v).map (·.1) = (F.map fun n : Nat => (n : Int)).map Sum.inl := by
  unfold dF
  rw [List.map_map, List.map_map]
  rfl
theorem dF_congr {F : List Nat} {v u : Nat → V} (h : ∀ x, x ∈ F → v x = u x) : dF F v = dF F u := List.map_congr_left fun x hx => by rw [h x hx]
section
open Evl
variable {σ : L2.St} {H : Hp} {ta tb : TE}
theorem ev_dnotin {d k : Nat} {F : List Nat} {v : Nat → V} (h1 : Ev ta σ H (nV k)) (h2 : Ev tb σ H (.ref d)) (hd : H d = some (.dK (dF F v))) : Ev (tDNotIn ta tb) σ H (.bl (!decide (k ∈ F))) := fun H1 e Q q =>
  h1 H1 e _ fun H2 e2 => h2 H2 (e.trans e2) _ fun H3 e3 => by
    have hd3 := e3 _ _ (e2 _ _ (e _ _ hd))
    refine ⟨d, _, rfl, DGet.k (k := kN k) hd3, ?_⟩
    have q3 := q H3 (e2.trans e3)
    rw [valV_dF]
    by_cases z : k ∈ F
    · rw [decide_eq_true z] at q3
      rw [if_pos z]
      exact q3
    · rw [decide_eq_false z] at q3
      rw [if_neg z]
      exact q3
theorem ev_dget {d k : Nat} {F : List Nat} {v : Nat → V} (h2 : Ev tb σ H (.ref d)) (h1 : Ev ta σ H (nV k)) (hd : H d = some (.dK (dF F v))) (hk : k ∈ F) : Ev (tDGet tb ta) σ H (v k) := fun H1 e Q q =>
  h2 H1 e _ fun H2 e2 => h1 H2 (e.trans e2) _ fun H3 e3 => ⟨d, v k, rfl, by rw [← dF_in (v := v) hk]; exact DGet.k (k := kN k) (e3 _ _ (e2 _ _ (e _ _ hd))), q H3 (e2.trans e3)⟩
end
theorem dropLast_snoc (xs : List Nat) (h : xs ≠ []) : ∃ ys y, xs = ys ++ [y] := ⟨xs.dropLast, xs.getLast h, (List.dropLast_concat_getLast h).symm⟩
theorem nVs_app (xs ys : List Nat) : nVs (xs ++ ys) = nVs xs ++ nVs ys := by unfold nVs; rw [List.map_append]
section
variable {P : Program} {w : World} {K : PySem.W.Frag} {mg : Str → Option Value} {base : Heap}
def spReached : Sp := fun vs H Q _ => ∃ (l : Addr) (first n : Nat) (bs : List Belt), vs = [.ref l, nV first] ∧ Bls H l bs ∧ Within n bs ∧ first < n ∧ n ≤ 30 ∧
  ∀ L : List Nat, L.Nodup → (∀ x, x ∈ L ↔ Conn bs first x) → (∀ x, x ∈ L → x < n) → RL (nVs L) H Q
theorem sc_reached : FnScope ["belts", "first", "found", "todo", "work", "giver", "taker", "give", "take", "start"] ["belts", "first"] (defScope s_reached) := ⟨rfl, rfl, rfl, by decide +kernel, rfl, by decide +kernel, by decide +kernel⟩
/-- what holds in the loops of reached -/
structure ReAt (H H' : Hp) (fd td : Addr) (F Td : List Nat) : Prop where
  fr : Fr [] H H'
  f : H' fd = some (.dK (dF F fun _ => .bl true))
  t : H' td = some (.lst (nVs Td))
theorem ReAt.go {H H' H2 : Hp} {fd td : Addr} {F Td : List Nat} (A : ReAt H H' fd td F Td) (e : Evl.Ex H' H2) : ReAt H H2 fd td F Td := ⟨A.fr.trans (.of_ex e), e _ _ A.f, e _ _ A.t⟩
theorem ok_reached (T : Tx K mg) : Okf P w K mg base 1 (He.ga K "reached") ["belts", "first"] spReached := by
  refine okf_of T.df_reached sc_reached (fun _ _ _ _ _ _ us hl => match us, hl with | [_, _], _ => rfl) (fun vs H Q E h => ?_) (fun cdv A outer s H vs Q E hr h => ?_)
  · obtain ⟨l, first, n, bs, rfl, _⟩ := h
    rfl
  · obtain ⟨l, first, n, bs, rfl, ⟨as, hl, tp⟩, hw, hfn, hn, q⟩ := h
    have hu := hu_of hr
    refine ⟨_, pss_cons (ps_set (i := 2) sc_reached.nd rfl (.inl rfl) (pe_disp (pps_cons (pv 1) pe_bl pps_nil) (by rfl) (by rfl) (fun z => by cases z) (by decide)))
      (pss_cons (ps_set (i := 3) sc_reached.nd rfl (.inl rfl) (pe_lst (pa_cons (pv 1) pa_nil)))
      (pss_cons (ps_while PassesOwn.never (pt_truth (pv 3) (by intro _; rfl))
        (pss_cons (ps_set (i := 4) sc_reached.nd rfl (.inl rfl) (pe_bm0 PySem.F.plainAttrs_list PySem.F.slot_list_pop PySem.F.type_list_pop mt_pop (pv 3)))
        (pss_one (ps_for PassesOwn.never rfl (pi_list (pv 0))
          (pg_tup rfl (pgs_cons (pg_name (i := 5) sc_reached.nd rfl (.inl rfl)) (pgs_cons (pg_name (i := 6) sc_reached.nd rfl (.inl rfl)) (pgs_cons (pg_name (i := 7) sc_reached.nd rfl (.inl rfl)) (pgs_cons (pg_name (i := 8) sc_reached.nd rfl (.inl rfl)) (pgs_cons (pg_name (i := 9) sc_reached.nd rfl (.inl rfl)) pgs_nil))))))
          (Evl.pss_cut (ps_if (PW.pt (pw_and (pt_cmpR op_eq (pv 5) (pv 4) (nomark _)) (pw_and1 (pt_cmp (pc_dnotin hu (pv 6) (pv 2))))))
              (pss_cons (ps_dput hu (pv 2) (pv 6) pe_bl rfl) (pss_one (ps_expr (pe_bm PySem.F.plainAttrs_list PySem.F.slot_list_append PySem.F.type_list_append mt_append (pv 3) (pa_cons (pv 6) pa_nil))))) pss_nil)
          (pss_one (ps_if (PW.pt (pw_and (pt_cmpR op_eq (pv 6) (pv 4) (nomark _)) (pw_and1 (pt_cmp (pc_dnotin hu (pv 5) (pv 2))))))
              (pss_cons (ps_dput hu (pv 2) (pv 5) pe_bl rfl) (pss_one (ps_expr (pe_bm PySem.F.plainAttrs_list PySem.F.slot_list_append PySem.F.type_list_append mt_append (pv 3) (pa_cons (pv 5) pa_nil))))) pss_nil)))))))
      (pss_one (ps_ret (pe_callB (cr_sortedDI rfl) (by rfl) T.b_sorted (by decide +kernel) (pa_cons (pv 2) pa_nil)))))), ?_⟩
    intro fd hfd
    refine ⟨_, rfl, upd_same, [(kN first, .bl true)], rfl, (by show 1 ≤ 15; decide), ?_⟩
    have f1 : Fr [] H (upd (upd H fd (.dK [])) fd (.dK (mergeK [] [(kN first, .bl true)]))) := by
      rw [upd_upd]
      exact Fr.n0 hfd
    have e1 : (upd (upd H fd (.dK [])) fd (.dK (mergeK [] [(kN first, .bl true)]))) fd = some (.dK (dF [first] fun _ => .bl true)) := upd_same
    generalize upd (upd H fd (.dK [])) fd (.dK (mergeK [] [(kN first, .bl true)])) = H1 at f1 e1 ⊢
    refine ⟨_, rfl, small_line (by show 1 ≤ 100000; omega), fun td htd => ?_⟩
    have hne : fd ≠ td := ne_of_none e1 htd
    have A1 : ReAt H (upd H1 td (.lst [nV first])) fd td [first] [first] := ⟨f1.new htd, by rw [upd_ne hne]; exact e1, upd_same⟩
    have htd0 : H td = none := f1.free htd
    generalize upd H1 td (.lst [nV first]) = H2 at A1 ⊢
    refine ⟨fun m σ H' => ∃ (F Td : List Nat) (v4 v5 v6 v7 v8 v9 : Option V), σ = [some (.ref l), some (nV first), some (.ref fd), some (.ref td), v4, v5, v6, v7, v8, v9] ∧ ReAt H H' fd td F Td ∧ Rch bs n first F Td ∧ m = Td.length + 2 * n - 2 * F.length ∧ m ≤ 2 * n,
      ⟨_, [first], [first], none, none, none, none, none, none, rfl, A1, rch_start hfn, rfl, by simp; omega⟩, ?_⟩
    rintro m σ H3 ⟨F, Td, v4, v5, v6, v7, v8, v9, rfl, A3, R, hm, hm2⟩
    have hFn := nodup_le R.nd R.lt
    refine ⟨_, rfl, _, .inl ⟨_, SqL.of A3.t, rfl⟩, ?_⟩
    cases hT : Td with
    | nil =>
      subst hT
      -- return sorted(found)
      refine ⟨_, rfl, fd, _, _, rfl, .inl A3.f, dF_keys _ _, (by rw [List.length_map]; omega), fun ys p hp _ hnew => ?_⟩
      obtain ⟨L, rfl, hL⟩ := perm_nat hp
      refine q L (hL.nodup_iff.mpr R.nd) (fun x => by rw [hL.mem_iff]; exact R.all x) (fun x hx => R.lt x (hL.mem_iff.mp hx)) p _ (A3.fr.free hnew) (A3.fr.new hnew) ?_
      rw [upd_same, nVs_eq]
    | cons t0 tr =>
      have hTd : Td ≠ [] := by rw [hT]; exact List.cons_ne_nil _ _
      rw [← hT]
      have hb : (!(nVs Td).isEmpty) = true := by rw [hT]; rfl
      rw [hb]
      obtain ⟨Td', wk, eT⟩ := dropLast_snoc Td hTd
      subst eT
      have M0 : Mid bs n first m wk F Td' := R.pop (by omega)
      refine ⟨fun σ' H' => ∃ (F' T' : List Nat) (v4 v5 v6 v7 v8 v9 : Option V), σ' = [some (.ref l), some (nV first), some (.ref fd), some (.ref td), v4, v5, v6, v7, v8, v9] ∧ ReAt H H' fd td F' T' ∧ Rch bs n first F' T' ∧ T'.length + 2 * n < m + 2 * F'.length, fun σ' H' hN => ?_, ?_⟩
      · obtain ⟨F', T', a4, a5, a6, a7, a8, a9, e1, e2, e3, e4⟩ := hN
        have := nodup_le e3.nd e3.lt
        exact ⟨_, by omega, F', T', a4, a5, a6, a7, a8, a9, e1, e2, e3, rfl, by omega⟩
      · have hlast : (nVs (Td' ++ [wk]))[(nVs (Td' ++ [wk])).length - 1]? = some (nV wk) := by
          rw [nVs_len, List.length_append, List.length_singleton, nVs_app, List.getElem?_append_right (by rw [nVs_len]; omega), nVs_len]
          simp [nVs]
        have hdl : (nVs (Td' ++ [wk])).dropLast = nVs Td' := by
          rw [nVs_app]
          show (nVs Td' ++ [nV wk]).dropLast = _
          rw [List.dropLast_concat]
        refine ⟨_, rfl, .inl ⟨rfl, _, SqL.of A3.t⟩, td, _, _, rfl, rfl, A3.t, hlast, ?_⟩
        rw [hdl]
        have ntf : td ≠ fd := ne_of A3.t A3.f (by intro z; cases z)
        have A4 : ReAt H (upd H3 td (.lst (nVs Td'))) fd td F Td' := ⟨A3.fr.mutL (.inr htd0) A3.t, by rw [upd_ne ntf.symm]; exact A3.f, upd_same⟩
        generalize upd H3 td (.lst (nVs Td')) = H4 at A4 ⊢
        -- one belt more: y is found
        have put : ∀ {H5 : Hp} {F' T' : List Nat} {y : Nat} {c : V} {σ' : L2.St} {D : Ends}, ReAt H H5 fd td F' T' → Mid bs n first m wk F' T' → y ∉ F' → y < n →
            ReAt H (upd (upd H5 fd (.dK (putK (dF F' fun _ => .bl true) (kN y) (.bl true)))) td (.lst (nVs T' ++ [nV y]))) fd td (F' ++ [y]) (T' ++ [y]) := by
          intro H5 F' T' y c σ' D A5 M5 hy hyn
          have g1 : Fr [] H (upd H5 fd (.dK (putK (dF F' fun _ => .bl true) (kN y) (.bl true)))) := A5.fr.mutD (.inr hfd) A5.f
          have g2 : (upd H5 fd (.dK (putK (dF F' fun _ => .bl true) (kN y) (.bl true)))) td = some (.lst (nVs T')) := by rw [upd_ne ntf]; exact A5.t
          refine ⟨g1.mutL (.inr htd0) g2, ?_, ?_⟩
          · rw [upd_ne ntf.symm, upd_same, dF_put hy]
            refine congrArg (fun z => some (HO.dK z)) (dF_congr fun x _ => ?_)
            by_cases z : x = y
            · rw [if_pos z]
            · rw [if_neg z]
          · rw [upd_same, nVs_app]
            rfl
        refine ⟨_, rfl, l, rfl, ⟨_, SqL.of (A4.fr.at_ hl)⟩, for_list (K := K) (a := l) (xs := rV as) (fun i σ' H' => ∃ (F' T' : List Nat) (v5 v6 v7 v8 v9 : Option V), σ' = [some (.ref l), some (nV first), some (.ref fd), some (.ref td), some (nV wk), v5, v6, v7, v8, v9] ∧ ReAt H H' fd td F' T' ∧ Mid bs n first m wk F' T' ∧
            ∀ (j : Nat) (e : Belt), j < i → bs[j]? = some e → (e.g = wk → e.t ∈ F') ∧ (e.t = wk → e.g ∈ F'))
          ⟨F, Td', v5, v6, v7, v8, v9, rfl, A4, M0, fun j e hj => absurd hj (Nat.not_lt_zero _)⟩ (fun i σ' H' _ ⟨_, _, _, _, _, _, _, _, A, _⟩ => SqL.of (A.fr.at_ hl)) ?_ ?_⟩
        · rintro i y σ' H5 hi ⟨F', T', a5, a6, a7, a8, a9, rfl, A5, M5, hdone⟩
          obtain ⟨a, ha, rfl⟩ := of_rV hi
          obtain ⟨b, hb, hta⟩ := tp.at_ ha
          have hbm : b ∈ bs := List.mem_of_getElem? hb
          obtain ⟨hbg, hbt⟩ := hw b hbm
          refine ⟨a, _, rfl, SqT.of (A5.fr.tp _ _ hta), rfl, _, _, rfl, _, _, rfl, _, _, rfl, _, _, rfl, _, _, rfl, rfl, ?_⟩
          refine Evl.q_cut (M := fun σ' H' => ∃ (F' T' : List Nat), σ' = [some (.ref l), some (nV first), some (.ref fd), some (.ref td), some (nV wk), some (nV b.g), some (nV b.t), some (nV b.gv), some (nV b.tk), some (nV b.st)] ∧ ReAt H H' fd td F' T' ∧ Mid bs n first m wk F' T' ∧
            (∀ (j : Nat) (e : Belt), j < i → bs[j]? = some e → (e.g = wk → e.t ∈ F') ∧ (e.t = wk → e.g ∈ F')) ∧ (b.g = wk → b.t ∈ F')) ?_ ?_
          · refine Evl.s_when (b := decide (b.g = wk) && !decide (b.t ∈ F')) (Evl.et_and (et_eqN (Evl.ev_var rfl) (Evl.ev_var rfl)) fun _ => Evl.et_B (ev_dnotin (Evl.ev_var rfl) (Evl.ev_var rfl) A5.f)) (fun hc H6 e6 => ?_) (fun hc H6 e6 => ?_)
            · have A6 := A5.go e6
              obtain ⟨c1, c2⟩ := Bool.and_eq_true_iff.mp hc
              have hg : b.g = wk := of_decide_eq_true c1
              have hnt : b.t ∉ F' := by simpa using c2
              have hsz : (dF F' fun _ => V.bl true).length < sizeLine := by rw [dF_len]; have := nodup_le M5.nd M5.lt; exact small_line' (by omega)
              have hsz2 : T'.length < 100000 := by have := M5.sz; have := nodup_le M5.nd M5.lt; omega
              have A7 := put (c := .non) (σ' := []) (D := { nx := fun _ _ => True, rt := fun _ _ => True }) A6 M5 hnt hbt
              refine ⟨_, rfl, _, rfl, fd, _, rfl, DPut.k (k := kN b.t) A6.f hsz, ?_⟩
              have g2 : (upd H6 fd (.dK (putK (dF F' fun _ => .bl true) (kN b.t) (.bl true)))) td = some (.lst (nVs T')) := by rw [upd_ne ntf]; exact A6.t
              refine ⟨_, rfl, .inl ⟨rfl, _, SqL.of g2⟩, _, rfl, td, _, _, rfl, rfl, g2, (by rw [nVs_len]; exact small_line' hsz2), ?_⟩
              refine ⟨_, _, rfl, A7, M5.push hnt hbt ⟨b, hbm, .inl ⟨hg, rfl⟩⟩, fun j e hj he => ?_, fun _ => List.mem_append_right _ (List.mem_singleton.mpr rfl)⟩
              have k := hdone j e hj he
              exact ⟨fun z => List.mem_append_left _ (k.1 z), fun z => List.mem_append_left _ (k.2 z)⟩
            · refine ⟨F', T', rfl, A5.go e6, M5, hdone, fun hg => ?_⟩
              rw [decide_eq_true hg, Bool.true_and] at hc
              simpa using hc
          · rintro σ6 H6 ⟨F6, T6, rfl, A6, M6, hdone6, hg6⟩
            refine Evl.s_when (b := decide (b.t = wk) && !decide (b.g ∈ F6)) (Evl.et_and (et_eqN (Evl.ev_var rfl) (Evl.ev_var rfl)) fun _ => Evl.et_B (ev_dnotin (Evl.ev_var rfl) (Evl.ev_var rfl) A6.f)) (fun hc H7 e7 => ?_) (fun hc H7 e7 => ?_)
            · have A7 := A6.go e7
              obtain ⟨c1, c2⟩ := Bool.and_eq_true_iff.mp hc
              have hg : b.t = wk := of_decide_eq_true c1
              have hnt : b.g ∉ F6 := by simpa using c2
              have hsz : (dF F6 fun _ => V.bl true).length < sizeLine := by rw [dF_len]; have := nodup_le M6.nd M6.lt; exact small_line' (by omega)
              have hsz2 : T6.length < 100000 := by have := M6.sz; have := nodup_le M6.nd M6.lt; omega
              have A8 := put (c := .non) (σ' := []) (D := { nx := fun _ _ => True, rt := fun _ _ => True }) A7 M6 hnt hbg
              refine ⟨_, rfl, _, rfl, fd, _, rfl, DPut.k (k := kN b.g) A7.f hsz, ?_⟩
              have g2 : (upd H7 fd (.dK (putK (dF F6 fun _ => .bl true) (kN b.g) (.bl true)))) td = some (.lst (nVs T6)) := by rw [upd_ne ntf]; exact A7.t
              refine ⟨_, rfl, .inl ⟨rfl, _, SqL.of g2⟩, _, rfl, td, _, _, rfl, rfl, g2, (by rw [nVs_len]; exact small_line' hsz2), ?_⟩
              refine ⟨_, _, _, _, _, _, _, rfl, A8, M6.push hnt hbg ⟨b, hbm, .inr ⟨hg, rfl⟩⟩, fun j e hj he => ?_⟩
              rcases Nat.lt_succ_iff_lt_or_eq.mp hj with z | z
              · have k := hdone6 j e z he
                exact ⟨fun z => List.mem_append_left _ (k.1 z), fun z => List.mem_append_left _ (k.2 z)⟩
              · subst z
                have eb : b = e := Option.some.inj (hb.symm.trans he)
                subst eb
                exact ⟨fun z => List.mem_append_left _ (hg6 z), fun _ => List.mem_append_right _ (List.mem_singleton.mpr rfl)⟩
            · refine ⟨F6, T6, _, _, _, _, _, rfl, A6.go e7, M6, fun j e hj he => ?_⟩
              rcases Nat.lt_succ_iff_lt_or_eq.mp hj with z | z
              · exact hdone6 j e z he
              · subst z
                have eb : b = e := Option.some.inj (hb.symm.trans he)
                subst eb
                refine ⟨hg6, fun hg => ?_⟩
                rw [decide_eq_true hg, Bool.true_and] at hc
                simpa using hc
        · rintro σ' H5 ⟨F', T', a5, a6, a7, a8, a9, rfl, A5, M5, hdone⟩
          obtain ⟨R5, hs5⟩ := M5.fin fun e he => by
            obtain ⟨j, hj⟩ := List.getElem?_of_mem he
            have hjl := (List.getElem?_eq_some_iff.mp hj).1
            exact hdone j e (by rw [rV_len, tp.1]; exact hjl) hj
          exact ⟨F', T', _, _, _, _, _, _, rfl, A5, R5, hs5⟩
/-! ### pieces_of -/
/-- lists of numbers at addresses -/
def Lists (H : Hp) (ps : List Addr) (Ls : List (List Nat)) : Prop := ps.length = Ls.length ∧ ∀ (i : Nat) (p : Addr) (L : List Nat), ps[i]? = some p → Ls[i]? = some L → H p = some (.lst (nVs L))
theorem Lists.keep {H H' : Hp} {ps : List Addr} {Ls : List (List Nat)} (h : Lists H ps Ls) (f : Fr [] H H') : Lists H' ps Ls := ⟨h.1, fun i p L h1 h2 => f.at_ (h.2 i p L h1 h2)⟩
theorem Lists.kept {S : List Addr} {H H' : Hp} {ps : List Addr} {Ls : List (List Nat)} (h : Lists H ps Ls) (f : Fr S H H') (hn : ∀ p, p ∈ ps → p ∉ S) : Lists H' ps Ls :=
  ⟨h.1, fun i p L h1 h2 => f.kp _ _ (h.2 i p L h1 h2) (hn p (List.mem_of_getElem? h1))⟩
theorem Lists.snoc {H : Hp} {ps : List Addr} {Ls : List (List Nat)} (h : Lists H ps Ls) {p : Addr} {L : List Nat} (e : H p = some (.lst (nVs L))) : Lists H (ps ++ [p]) (Ls ++ [L]) := by
  refine ⟨by rw [List.length_append, List.length_append, h.1]; rfl, fun i c d h1 h2 => ?_⟩
  have hl := h.1
  by_cases hi : i < ps.length
  · rw [List.getElem?_append_left hi] at h1
    rw [List.getElem?_append_left (by omega)] at h2
    exact h.2 i c d h1 h2
  · rw [List.getElem?_append_right (by omega)] at h1
    rw [List.getElem?_append_right (by omega)] at h2
    have k : i - ps.length = 0 := by
      have := (List.getElem?_eq_some_iff.mp h1).1
      simp at this
      omega
    rw [k] at h1
    rw [show i - Ls.length = 0 by omega] at h2
    have e1 : p = c := Option.some.inj h1
    have e2 : L = d := Option.some.inj h2
    rw [← e1, ← e2]
    exact e
theorem Lists.at_ {H : Hp} {ps : List Addr} {Ls : List (List Nat)} (h : Lists H ps Ls) {i : Nat} {p : Addr} (e : ps[i]? = some p) : ∃ L, Ls[i]? = some L ∧ H p = some (.lst (nVs L)) := by
  have hi := (List.getElem?_eq_some_iff.mp e).1
  obtain ⟨L, hL⟩ : ∃ L, Ls[i]? = some L := ⟨Ls[i]'(by have := h.1; omega), List.getElem?_eq_getElem _⟩
  exact ⟨L, hL, h.2 i p L e hL⟩
def spPieces (K : PySem.W.Frag) : Sp := fun vs H Q _ => ∃ (h l1 l2 : Addr) (names : List Str) (bs : List Belt), vs = [.ref h] ∧ HallAt K H h l1 l2 names bs ∧ Within names.length bs ∧ names.length ≤ 30 ∧
  ∀ (Ls : List (List Nat)) (p : Addr) (H' : Hp) (ps : List Addr), Pcs bs names.length names.length Ls → Ls.length ≤ 30 → H p = none → Fr [] H H' → H' p = some (.lst (rV ps)) → Lists H' ps Ls → Q (.ref p) H'
theorem sc_pieces_of : FnScope ["hall", "belts", "told", "seen", "work", "piece", "one"] ["hall"] (defScope s_pieces_of) := ⟨rfl, rfl, rfl, by decide +kernel, rfl, by decide +kernel, by decide +kernel⟩
structure PoAt (H H' : Hp) (tl sd : Addr) (bs : List Belt) (n k : Nat) (Ls : List (List Nat)) (ps : List Addr) (kvs : List (Key × V)) : Prop where
  fr : Fr [] H H'
  t : H' tl = some (.lst (rV ps))
  s : H' sd = some (.dK kvs)
  ls : Lists H' ps Ls
  ne : ∀ p, p ∈ ps → p ≠ tl ∧ p ≠ sd
  pc : Pcs bs n k Ls
  sn : ∀ x, (valV kvs (kN x)).isSome = true ↔ ∃ L, L ∈ Ls ∧ x ∈ L
  sz : kvs.length ≤ 30 * k
  lk : Ls.length ≤ k
theorem ok_pieces_of (T : Tx K mg) : Okf P w K mg base 2 (He.ga K "pieces_of") ["hall"] (spPieces K) := by
  obtain ⟨fN, GN, kN', bN⟩ := ok_Hall_names (P := P) (w := w) (base := base) T
  obtain ⟨fB, GB, kB, bB⟩ := ok_Hall_belts (P := P) (w := w) (base := base) T
  obtain ⟨fR, GR, kR, bR⟩ := ok_reached (P := P) (w := w) (base := base) T
  refine okf_of T.df_pieces_of sc_pieces_of (fun _ _ _ _ _ _ us hl => match us, hl with | [_], _ => rfl) (fun vs H Q E h => ?_) (fun cdv A outer s H vs Q E hr h => ?_)
  · obtain ⟨h, l1, l2, names, bs, rfl, _⟩ := h
    rfl
  · obtain ⟨h, l1, l2, names, bs, rfl, A0, hw, hn, q⟩ := h
    obtain ⟨dx, eh⟩ := A0.ob
    have hu := hu_of hr
    have nN : (hF l1 l2).lookup ("names" : Str) = none := hF_no _ _ (by decide +kernel) (by decide +kernel)
    have nB : (hF l1 l2).lookup ("belts" : Str) = none := hF_no _ _ (by decide +kernel) (by decide +kernel)
    refine ⟨_, pss_cons (ps_set (i := 1) sc_pieces_of.nd rfl (.inl rfl) (pe_meth0 (pv 0) T.cl_Hall T.m_Hall_belts GB hr bB .nil pass0))
      (pss_cons (ps_set (i := 2) sc_pieces_of.nd rfl (.inl rfl) (pe_lst pa_nil)) (pss_cons (ps_set (i := 3) sc_pieces_of.nd rfl (.inl rfl) pe_dnewK)
      (pss_cons (ps_for PassesOwn.never rfl (pi_range1 (by rfl) T.b_range (pa_cons (pe_callB call_len_seq (by rfl) T.b_len PySem.boot_len (pa_cons (pe_meth0 (pv 0) T.cl_Hall T.m_Hall_names GN hr bN .nil pass0) pa_nil)) pa_nil)) (pg_name (i := 4) sc_pieces_of.nd rfl (.inl rfl))
        (pss_one (ps_if (pt_cmp (pc_dnotin hu (pv 4) (pv 3)))
          (pss_cons (ps_set (i := 5) sc_pieces_of.nd rfl (.inl rfl) (pe_call GR hr (by rfl) T.g_reached kR bR .nil pass0 (pa_cons (pv 1) (pa_cons (pv 4) pa_nil))))
          (pss_cons (ps_for PassesOwn.never rfl (pi_list (pv 5)) (pg_name (i := 6) sc_pieces_of.nd rfl (.inl rfl)) (pss_one (ps_dput hu (pv 3) (pv 6) pe_bl rfl)))
          (pss_one (ps_expr (pe_bm PySem.F.plainAttrs_list PySem.F.slot_list_append PySem.F.type_list_append mt_append (pv 2) (pa_cons (pv 5) pa_nil)))))) pss_nil)))
      (pss_one (ps_ret (pv 2)))))), ?_⟩
    refine ⟨_, rfl, h, dx, _, rfl, eh, nB, h, l1, l2, names, bs, rfl, A0, fun bl H1 hbl f1 hb1 => ?_⟩
    refine ⟨Nat.zero_le _, fun tl htl => ?_⟩
    have f2 : Fr [] H1 (upd H1 tl (.lst [])) := Fr.n0 htl
    have et : (upd H1 tl (.lst [])) tl = some (.lst []) := upd_same
    have htl0 := f1.free htl
    have hb2 : Bls (upd H1 tl (.lst [])) bl bs := hb1.kept f2 (by simp)
    have F2 := f1.trans f2
    generalize upd H1 tl (.lst []) = H2 at f2 et hb2 F2 ⊢
    intro sd hsd
    have f3 : Fr [] H2 (upd H2 sd (.dK [])) := Fr.n0 hsd
    have es : (upd H2 sd (.dK [])) sd = some (.dK []) := upd_same
    have hsd0 := F2.free hsd
    have hb3 : Bls (upd H2 sd (.dK [])) bl bs := hb2.kept f3 (by simp)
    have et3 := f3.at_ et
    have F3 := F2.trans f3
    generalize upd H2 sd (.dK []) = H3 at f3 es hb3 et3 F3 ⊢
    have nts : tl ≠ sd := ne_of et3 es (by intro z; cases z)
    have A3 := A0.keep F3
    obtain ⟨dx3, eh3⟩ := A3.ob
    refine ⟨_, rfl, h, dx3, _, rfl, eh3, nN, h, l1, l2, names, bs, rfl, A3, fun ln H4 hln f4 en => ?_⟩
    have F4 := F3.trans f4
    have hb4 : Bls H4 bl bs := hb3.kept f4 (by simp)
    refine ⟨ln, _, rfl, .inl (SqL.of en), _, rfl, by omega, by rw [List.length_map]; omega, ?_⟩
    have elen : (((names.map V.str).length : Nat) : Int).toNat = names.length := by rw [List.length_map]; rfl
    rw [elen]
    refine for_rangeN (fun k σ H' => ∃ (Ls : List (List Nat)) (ps : List Addr) (kvs : List (Key × V)) (v4 v5 v6 : Option V), σ = [some (.ref h), some (.ref bl), some (.ref tl), some (.ref sd), v4, v5, v6] ∧ PoAt H H' tl sd bs names.length k Ls ps kvs ∧ Bls H' bl bs ∧ bl ≠ tl)
      ⟨[], [], [], none, none, none, rfl, ⟨F4, f4.at_ et3, f4.at_ es, ⟨rfl, fun i p L h => by simp at h⟩, fun p hp => by simp at hp, Pcs.nil _ _, fun x => by simp [valV_nil], Nat.zero_le _, Nat.zero_le _⟩, hb4, ?_⟩ ?_ ?_
    · obtain ⟨as, e, _⟩ := hb1
      exact ne_of_none e htl
    · rintro k σ H5 hk ⟨Ls, ps, kvs, v4, v5, v6, rfl, A5, hb5, nbt⟩
      refine ⟨_, rfl, _, rfl, sd, _, rfl, DGet.k (k := kN k) A5.s, _, rfl, ?_⟩
      cases hv : (valV kvs (kN k)).isSome with
      | true => exact ⟨Ls, ps, kvs, _, _, _, rfl, ⟨A5.fr, A5.t, A5.s, A5.ls, A5.ne, A5.pc.old ((A5.sn k).mp hv), A5.sn, by have := A5.sz; omega, by have := A5.lk; omega⟩, hb5, nbt⟩
      | false =>
        have hnew : ¬ ∃ L, L ∈ Ls ∧ k ∈ L := fun z => by
          rw [(A5.sn k).mpr z] at hv
          cases hv
        refine ⟨_, rfl, _, rfl, bl, k, names.length, bs, rfl, hb5, hw, hk, hn, fun M m1 m2 m3 p H6 hp f6 ep => ?_⟩
        have hp0 := A5.fr.free hp
        have npt : p ≠ tl := (ne_of_none A5.t hp).symm
        have nps : p ≠ sd := (ne_of_none A5.s hp).symm
        have hMl : M.length ≤ 30 := Nat.le_trans (nodup_le m1 m3) hn
        refine ⟨_, rfl, p, rfl, ⟨_, SqL.of ep⟩, for_list (K := K) (a := p) (xs := nVs M) (fun i σ' H' => ∃ (kvs' : List (Key × V)) (v6 : Option V), σ' = [some (.ref h), some (.ref bl), some (.ref tl), some (.ref sd), some (nV k), some (.ref p), v6] ∧ Fr [] H H' ∧ Fr [sd] H6 H' ∧ H' sd = some (.dK kvs') ∧ kvs'.length ≤ 30 * k + i ∧
            ∀ x, (valV kvs' (kN x)).isSome = true ↔ (∃ L, L ∈ Ls ∧ x ∈ L) ∨ x ∈ M.take i)
          ⟨kvs, v6, rfl, A5.fr.trans f6, Fr.refl _ _, f6.at_ A5.s, A5.sz, fun x => by simp [A5.sn x]⟩ (fun i σ' H' _ ⟨_, _, _, _, f, _⟩ => SqL.of (f.kp _ _ ep (by simpa using nps))) ?_ ?_⟩
        · rintro i y σ' H7 hi ⟨kvs', v6', rfl, F7, f7, es7, hsz7, sn7⟩
          obtain ⟨x, hx, rfl⟩ := of_nVs hi
          have hil := (List.getElem?_eq_some_iff.mp hx).1
          refine ⟨_, rfl, _, rfl, sd, _, rfl, DPut.k (k := kN x) es7 (small_line' (by omega)), ?_⟩
          refine ⟨_, _, rfl, F7.mutD (.inr hsd0) es7, f7.mutD (.inl (by simp)) es7, upd_same, ?_, fun z => ?_⟩
          · have := length_putK kvs' (kN x) (V.bl true)
            omega
          · rw [valV_put, List.take_add_one, hx]
            show (if kN z = kN x then some (V.bl true) else valV kvs' (kN z)).isSome = true ↔ _ ∨ z ∈ M.take i ++ [x]
            by_cases e : z = x
            · subst e
              rw [if_pos rfl]
              simp
            · rw [if_neg (fun w => e (kN_inj w)), sn7 z, List.mem_append]
              have : z ∉ [x] := fun w => e (List.mem_singleton.mp w)
              simp [this]
        · rintro σ' H7 ⟨kvs', v6', rfl, F7, f7, es7, hsz7, sn7⟩
          rw [nVs_len] at hsz7 sn7
          have et7 : H7 tl = some (.lst (rV ps)) := f7.kp _ _ (f6.at_ A5.t) (by simpa using nts)
          have hpsl : ps.length ≤ 30 := by
            have := A5.lk
            have := A5.ls.1
            omega
          refine ⟨_, rfl, .inl ⟨rfl, _, SqL.of et7⟩, _, rfl, tl, _, _, rfl, rfl, et7, (by rw [rV_len]; exact small_line' (by omega)), ?_⟩
          have f8 : Fr [tl] H7 (upd H7 tl (.lst (rV ps ++ [.ref p]))) := (Fr.refl _ H7).mutL (.inl (by simp)) et7
          refine ⟨Ls ++ [M], ps ++ [p], kvs', _, _, _, rfl, ⟨F7.mutL (.inr htl0) et7, ?_, f8.kp _ _ es7 (by simpa using nts.symm), ?_, ?_, A5.pc.new hnew m1 m2 m3, fun x => ?_, by omega, ?_⟩, ?_, nbt⟩
          · rw [upd_same]
            unfold rV
            rw [List.map_append]
            rfl
          · have k1 : Lists H7 ps Ls := (A5.ls.keep f6).kept f7 fun p' hp' => by simpa using (A5.ne p' hp').2
            have k2 : H7 p = some (.lst (nVs M)) := f7.kp _ _ ep (by simpa using nps)
            refine (k1.kept f8 fun p' hp' => by simpa using (A5.ne p' hp').1).snoc (f8.kp _ _ k2 (by simpa using npt))
          · intro p' hp'
            rcases List.mem_append.mp hp' with z | z
            · exact A5.ne p' z
            · rw [List.mem_singleton.mp z]; exact ⟨npt, nps⟩
          · rw [sn7 x, List.take_length]
            constructor
            · rintro (⟨L, a, b⟩ | b)
              · exact ⟨L, List.mem_append_left _ a, b⟩
              · exact ⟨M, List.mem_append_right _ (List.mem_singleton.mpr rfl), b⟩
            · rintro ⟨L, a, b⟩
              rcases List.mem_append.mp a with z | z
              · exact .inl ⟨L, z, b⟩
              · rw [List.mem_singleton.mp z] at b
                exact .inr b
          · rw [List.length_append, List.length_singleton]
            have := A5.lk
            omega
          · obtain ⟨as, e, tp⟩ := hb5
            refine ⟨as, f8.kp _ _ (f7.kp _ _ (f6.at_ e) ?_) (by simpa using nbt), ((tp.mono f6).mono f7).mono f8⟩
            have : bl ≠ sd := ne_of e A5.s (by intro z; cases z)
            simpa using this
    · rintro σ H5 ⟨Ls, ps, kvs, v4, v5, v6, rfl, A5, hb5, nbt⟩
      exact ⟨_, rfl, q Ls tl H5 ps A5.pc (by have := A5.lk; omega) htl0 A5.fr A5.t A5.ls⟩
end
end RH
/-! Rates of a hall. -/
namespace RH
open PySem PySem.Spec PyProof.Rows L2
/-! ### for number, x in enumerate(a list) -/
theorem for_enumL {K : PySem.W.Frag} {a : Addr} {xs : List V} {g : TG} {tb : TS} {D : Ends} {σ : L2.St} {H : Hp} (Pv : Nat → L2.St → Hp → Prop) (h0 : Pv 0 σ H) (hq : ∀ i σ H, Pv i σ H → SqL K H a xs)
    (hs : ∀ (i : Nat) (x : V) (T : Addr) (σ : L2.St) (H : Hp), xs[i]? = some x → Pv i σ H → H T = none → g (.ref T) σ (upd H T (.tup [nV i, x])) fun σ2 H2 => tb { D with nx := Pv (i + 1), ct := Pv (i + 1), bk := D.nx } σ2 H2) (hd : ∀ σ H, Pv xs.length σ H → D.nx σ H) :
    ∃ W : Nat → Nat → L2.St → Hp → Prop, (∃ m, W 0 m σ H) ∧ ∀ i m σ H, W i m σ H →
      ((Ite K a).stop i H ∧ D.nx σ H) ∨ ((Ite K a).go i H ∧ ∃ N : L2.St → Hp → Prop, (∀ σ' H', N σ' H' → ∃ m', m' < m ∧ W (i + 1) m' σ' H') ∧ ∀ v H', (Ite K a).yld i H v H' → g v σ H' fun σ2 H2 => tb { D with nx := N, ct := N, bk := D.nx } σ2 H2) := by
  refine ⟨fun i m σ H => m = xs.length - i ∧ i ≤ xs.length ∧ Pv i σ H, ⟨_, rfl, Nat.zero_le _, h0⟩, ?_⟩
  rintro i m σ H ⟨rfl, hi, p⟩
  have q := hq i σ H p
  by_cases hlt : i < xs.length
  · refine .inr ⟨⟨xs, xs[i], q, List.getElem?_eq_getElem hlt⟩, Pv (i + 1), fun σ' H' p' => ⟨xs.length - (i + 1), by omega, rfl, hlt, p'⟩, fun v H' y => ?_⟩
    obtain ⟨T, x, rfl, hT, rfl, hx⟩ := y
    exact hs i x T σ H (hx xs q) p hT
  · have e : i = xs.length := by omega
    subst e
    exact .inl ⟨⟨xs, q, Nat.le_refl _⟩, hd σ H p⟩
/-! ### the class -/
theorem ne_lr : ("lines" : Str) ≠ "ratios" := by decide +kernel
theorem ne_rl : ("ratios" : Str) ≠ "lines" := by decide +kernel
theorem ne_lw : ("lines" : Str) ≠ "ways" := by decide +kernel
theorem ne_wl : ("ways" : Str) ≠ "lines" := by decide +kernel
theorem ne_rw : ("ratios" : Str) ≠ "ways" := by decide +kernel
theorem ne_wr : ("ways" : Str) ≠ "ratios" := by decide +kernel
def sF (ll d1 d2 : Addr) : List (Str × V) := [("lines", .ref ll), ("ratios", .ref d1), ("ways", .ref d2)]
section
variable (ll d1 d2 : Addr)
theorem sF_lines : (sF ll d1 d2).lookup ("lines" : Str) = some (.ref ll) := look_eq _ _ _
theorem sF_ratios : (sF ll d1 d2).lookup ("ratios" : Str) = some (.ref d1) := by
  unfold sF
  rw [look_ne ne_rl, look_eq]
theorem sF_ways : (sF ll d1 d2).lookup ("ways" : Str) = some (.ref d2) := by
  unfold sF
  rw [look_ne ne_wl, look_ne ne_wr, look_eq]
theorem sF_no {m : Str} (h1 : m ≠ "lines") (h2 : m ≠ "ratios") (h3 : m ≠ "ways") : (sF ll d1 d2).lookup m = none := by
  unfold sF
  rw [look_ne h1, look_ne h2, look_ne h3]
  rfl
end
/-- ratios of the works F, each as rt tells; a way to each -/
structure SpAt (K : PySem.W.Frag) (H : Hp) (p ll d1 d2 : Addr) (F : List Nat) (ra wa : Nat → Addr) (rt : Nat → Nat × Nat) : Prop where
  ob : ∃ dx, H p = some (.ins (He.ga K "Spread") dx (sF ll d1 d2))
  r : H d1 = some (.dK (dF F fun x => .ref (ra x)))
  y : H d2 = some (.dK (dF F fun x => .ref (wa x)))
  ne : d1 ≠ d2
  tp : ∀ x, x ∈ F → H (ra x) = some (.tup (pV (rt x)))
  wy : ∀ x, x ∈ F → ∃ xs, H (wa x) = some (.lst xs) ∧ xs.length ≤ F.length
section
variable {K : PySem.W.Frag} {H H' : Hp} {p ll d1 d2 : Addr} {F : List Nat} {ra wa : Nat → Addr} {rt : Nat → Nat × Nat}
theorem SpAt.keep (A : SpAt K H p ll d1 d2 F ra wa rt) (f : Fr [] H H') : SpAt K H' p ll d1 d2 F ra wa rt :=
  ⟨let ⟨dx, e⟩ := A.ob; ⟨dx, f.at_ e⟩, f.at_ A.r, f.at_ A.y, A.ne, fun x hx => f.tp _ _ (A.tp x hx), fun x hx => let ⟨xs, e, l⟩ := A.wy x hx; ⟨xs, f.at_ e, l⟩⟩
theorem SpAt.nep1 (A : SpAt K H p ll d1 d2 F ra wa rt) : p ≠ d1 := by
  obtain ⟨dx, e⟩ := A.ob
  exact ne_of e A.r (by intro z; cases z)
theorem SpAt.nep2 (A : SpAt K H p ll d1 d2 F ra wa rt) : p ≠ d2 := by
  obtain ⟨dx, e⟩ := A.ob
  exact ne_of e A.y (by intro z; cases z)
/-- one work more: its ratio at a, its way at c -/
theorem SpAt.put (A : SpAt K H p ll d1 d2 F ra wa rt) {b : Nat} {a c : Addr} {z : Nat × Nat} {xs : List V} (hb : b ∉ F) (f : Fr [d1, d2] H H') (e1 : H' d1 = some (.dK (putK (dF F fun x => .ref (ra x)) (kN b) (.ref a)))) (e2 : H' d2 = some (.dK (putK (dF F fun x => .ref (wa x)) (kN b) (.ref c))))
    (ha : H' a = some (.tup (pV z))) (hc : H' c = some (.lst xs)) (hl : xs.length ≤ F.length + 1) :
    SpAt K H' p ll d1 d2 (F ++ [b]) (fun x => if x = b then a else ra x) (fun x => if x = b then c else wa x) (fun x => if x = b then z else rt x) := by
  have hx : ∀ {x}, x ∈ F → x ≠ b := fun hx e => hb (e ▸ hx)
  refine ⟨?_, ?_, ?_, A.ne, fun x h => ?_, fun x h => ?_⟩
  · obtain ⟨dx, e⟩ := A.ob
    exact ⟨dx, f.kp _ _ e (by simp [A.nep1, A.nep2])⟩
  · rw [e1, dF_put hb]
    refine congrArg (fun q => some (HO.dK q)) (dF_congr fun x _ => ?_)
    by_cases q : x = b
    · rw [if_pos q, if_pos q]
    · rw [if_neg q, if_neg q]
  · rw [e2, dF_put hb]
    refine congrArg (fun q => some (HO.dK q)) (dF_congr fun x _ => ?_)
    by_cases q : x = b
    · rw [if_pos q, if_pos q]
    · rw [if_neg q, if_neg q]
  · rcases List.mem_append.mp h with q | q
    · rw [if_neg (hx q), if_neg (hx q)]
      exact f.tp _ _ (A.tp x q)
    · rw [if_pos (List.mem_singleton.mp q), if_pos (List.mem_singleton.mp q)]
      exact ha
  · rcases List.mem_append.mp h with q | q
    · rw [if_neg (hx q)]
      obtain ⟨ys, e, l⟩ := A.wy x q
      refine ⟨ys, f.kp _ _ e ?_, by rw [List.length_append]; omega⟩
      have n1 : wa x ≠ d1 := ne_of e A.r (by intro z; cases z)
      have n2 : wa x ≠ d2 := ne_of e A.y (by intro z; cases z)
      simp [n1, n2]
    · rw [if_pos (List.mem_singleton.mp q)]
      exact ⟨xs, hc, by rw [List.length_append, List.length_singleton]; exact hl⟩
end
section
variable {P : Program} {w : World} {K : PySem.W.Frag} {mg : Str → Option Value} {base : Heap}
def spSpreadInit (K : PySem.W.Frag) : Sp := fun vs H Q _ => ∃ (p dx ll : Addr), vs = [.ref p, .ref ll] ∧ H p = some (.ins (He.ga K "Spread") dx []) ∧
  ∀ (H' : Hp) (d1 d2 : Addr), H d1 = none → H d2 = none → SpAt K H' p ll d1 d2 [] (fun _ => 0) (fun _ => 0) (fun _ => (1, 1)) → Fr [p] H H' → Q .non H'
theorem sc_Spread_init : FnScope ["self", "belts"] ["self", "belts"] (defScope s_Spread_init) := ⟨rfl, rfl, rfl, by decide +kernel, rfl, by decide +kernel, by decide +kernel⟩
theorem ok_Spread_init (T : Tx K mg) : Okf P w K mg base 1 (He.ma K (He.ga K "Spread") "__init__") ["self", "belts"] (spSpreadInit K) := by
  refine okf_of T.df_Spread_init sc_Spread_init (fun _ _ _ _ _ _ us hl => match us, hl with | [_, _], _ => rfl) (fun vs H Q E h => ?_) (fun cdv A outer s H vs Q E hr h => ?_)
  · obtain ⟨p, dx, ll, rfl, _⟩ := h
    rfl
  · obtain ⟨p, dx, ll, rfl, hp, q⟩ := h
    refine ⟨_, pss_cons (ps_fld (pv 0) (pv 1) rfl) (pss_cons (ps_fld (pv 0) pe_dnewK rfl) (pss_one (ps_fld (pv 0) pe_dnewK rfl))), ?_⟩
    refine ⟨_, rfl, _, rfl, p, _, dx, [], rfl, hp, T.cl_Spread, T.n_Spread_lines, (by show 0 < 1000; decide), ?_⟩
    have f1 : Fr [p] H (upd H p (.ins (He.ga K "Spread") dx (putF "lines" (.ref ll) []))) := (Fr.refl _ H).mutI (.inl (by simp)) hp
    have e1 : (upd H p (.ins (He.ga K "Spread") dx (putF "lines" (.ref ll) []))) p = some (.ins (He.ga K "Spread") dx [("lines", .ref ll)]) := upd_same
    generalize upd H p (.ins (He.ga K "Spread") dx (putF "lines" (.ref ll) [])) = H1 at f1 e1 ⊢
    intro d1 h1
    have hd1 := f1.free h1
    have f2 : Fr [p] H (upd H1 d1 (.dK [])) := f1.new h1
    have n1 : p ≠ d1 := ne_of_none e1 h1
    have e2 : (upd H1 d1 (.dK [])) p = some (.ins (He.ga K "Spread") dx [("lines", .ref ll)]) := by rw [upd_ne n1]; exact e1
    have ed1 : (upd H1 d1 (.dK [])) d1 = some (.dK []) := upd_same
    generalize upd H1 d1 (.dK []) = H2 at f2 e2 ed1 ⊢
    refine ⟨_, rfl, p, _, dx, _, rfl, e2, T.cl_Spread, T.n_Spread_ratios, (by show 1 < 1000; decide), ?_⟩
    rw [putF_ne ne_lr, putF_nil]
    have f3 : Fr [p] H (upd H2 p (.ins (He.ga K "Spread") dx [("lines", .ref ll), ("ratios", .ref d1)])) := f2.mutI (.inl (by simp)) e2
    have e3 : (upd H2 p (.ins (He.ga K "Spread") dx [("lines", .ref ll), ("ratios", .ref d1)])) p = some (.ins (He.ga K "Spread") dx [("lines", .ref ll), ("ratios", .ref d1)]) := upd_same
    have ed13 : (upd H2 p (.ins (He.ga K "Spread") dx [("lines", .ref ll), ("ratios", .ref d1)])) d1 = some (.dK []) := by rw [upd_ne n1.symm]; exact ed1
    generalize upd H2 p (.ins (He.ga K "Spread") dx [("lines", .ref ll), ("ratios", .ref d1)]) = H3 at f3 e3 ed13 ⊢
    intro d2 h2
    have hd2 := f3.free h2
    have n2 : p ≠ d2 := ne_of_none e3 h2
    have n12 : d1 ≠ d2 := ne_of_none ed13 h2
    have f4 : Fr [p] H (upd H3 d2 (.dK [])) := f3.new h2
    have e4 : (upd H3 d2 (.dK [])) p = some (.ins (He.ga K "Spread") dx [("lines", .ref ll), ("ratios", .ref d1)]) := by rw [upd_ne n2]; exact e3
    refine ⟨_, rfl, p, _, dx, _, rfl, e4, T.cl_Spread, T.n_Spread_ways, (by show 2 < 1000; decide), ?_⟩
    rw [putF_ne ne_lw, putF_ne ne_rw, putF_nil]
    refine q _ d1 d2 hd1 hd2 ⟨⟨dx, upd_same⟩, ?_, ?_, n12, fun x h => by simp at h, fun x h => by simp at h⟩ (f4.mutI (.inl (by simp)) e4)
    · rw [upd_ne n1.symm, upd_ne n12]
      exact ed13
    · rw [upd_ne n2.symm, upd_same]
      rfl
def okR (z : Nat × Nat) : Prop := 0 < z.1 ∧ 0 < z.2 ∧ z.1 < 2 ^ 100 ∧ z.2 < 2 ^ 100
def spComeTo (K : PySem.W.Frag) : Sp := fun vs H Q _ => ∃ (p ll d1 d2 : Addr) (F : List Nat) (ra wa : Nat → Addr) (rt : Nat → Nat × Nat) (a b : Nat) (fa pc : Addr) (z : Nat × Nat), vs = [.ref p, nV a, nV b, .ref fa, .ref pc] ∧ SpAt K H p ll d1 d2 F ra wa rt ∧ a ∈ F ∧ b ∉ F ∧
  H fa = some (.tup (pV z)) ∧ okR z ∧ okR (rt a) ∧ F.length < 1000 ∧
  ∀ (H' : Hp) (ra' wa' : Nat → Addr), SpAt K H' p ll d1 d2 (F ++ [b]) ra' wa' (fun x => if x = b then tms (rt a) z else rt x) → (∀ x, x ∈ F → wa' x = wa x) → H (wa' b) = none → Fr [d1, d2] H H' → Q .non H'
theorem sc_Spread_come_to : FnScope ["self", "work", "other", "factor", "pace"] ["self", "work", "other", "factor", "pace"] (defScope s_Spread_come_to) := ⟨rfl, rfl, rfl, by decide +kernel, rfl, by decide +kernel, by decide +kernel⟩
theorem ok_Spread_come_to (T : Tx K mg) : Okf P w K mg base 4 (He.ma K (He.ga K "Spread") "come_to") ["self", "work", "other", "factor", "pace"] (spComeTo K) := by
  obtain ⟨fT, GT, kT, bT⟩ := ok_times (P := P) (w := w) (base := base) T
  refine okf_of T.df_Spread_come_to sc_Spread_come_to (fun _ _ _ _ _ _ us hl => match us, hl with | [_, _, _, _, _], _ => rfl) (fun vs H Q E h => ?_) (fun cdv A outer s H vs Q E hr h => ?_)
  · obtain ⟨p, ll, d1, d2, F, ra, wa, rt, a, b, fa, pc, z, rfl, _⟩ := h
    rfl
  · obtain ⟨p, ll, d1, d2, F, ra, wa, rt, a, b, fa, pc, z, rfl, A, ha, hb, hf, ⟨z1, z2, z3, z4⟩, ⟨y1, y2, y3, y4⟩, hF, q⟩ := h
    have hu := hu_of hr
    obtain ⟨dx, ep⟩ := A.ob
    refine ⟨_, pss_cons (ps_dput hu (pe_fld (pv 0) rfl) (pv 2) (pe_call GT hr (by rfl) T.g_times kT bT .nil pass0 (pa_cons (pe_dget hu (pe_fld (pv 0) rfl) (pv 1) (fun _ _ => rfl)) (pa_cons (pv 3) pa_nil))) rfl)
      (pss_one (ps_dput hu (pe_fld (pv 0) rfl) (pv 2) (pe_op op_cat (pe_dget hu (pe_fld (pv 0) rfl) (pv 1) (fun _ _ => rfl)) (pe_lst (pa_cons (pv 4) pa_nil))) rfl)), ?_⟩
    refine ⟨_, rfl, p, _, dx, _, _, rfl, ep, T.cl_Spread, T.n_Spread_ratios, sF_ratios _ _ _, _, rfl, d1, _, rfl, by rw [← dF_in (v := fun x => V.ref (ra x)) ha]; exact DGet.k (k := kN a) A.r, _, rfl, ra a, fa, rt a, z, rfl, A.tp a ha, hf, y1, y2, z1, z2, y3, y4, z3, z4, fun t ht => ?_⟩
    have f1 : Fr [] H (upd H t (.tup (pV (tms (rt a) z)))) := Fr.n0 ht
    have A1 := A.keep f1
    have et : (upd H t (.tup (pV (tms (rt a) z)))) t = some (.tup (pV (tms (rt a) z))) := upd_same
    generalize upd H t (.tup (pV (tms (rt a) z))) = H1 at f1 A1 et ⊢
    obtain ⟨dx1, ep1⟩ := A1.ob
    refine ⟨_, rfl, p, _, dx1, _, _, rfl, ep1, T.cl_Spread, T.n_Spread_ratios, sF_ratios _ _ _, _, rfl, d1, _, rfl, DPut.k (k := kN b) A1.r (by rw [dF_len]; exact small_line' (by omega)), ?_⟩
    have f2 : Fr [d1, d2] H1 (upd H1 d1 (.dK (putK (dF F fun x => .ref (ra x)) (kN b) (.ref t)))) := (Fr.refl _ H1).mutD (.inl (by simp)) A1.r
    have e21 : (upd H1 d1 (.dK (putK (dF F fun x => .ref (ra x)) (kN b) (.ref t)))) d1 = some (.dK (putK (dF F fun x => .ref (ra x)) (kN b) (.ref t))) := upd_same
    have e22 : (upd H1 d1 (.dK (putK (dF F fun x => .ref (ra x)) (kN b) (.ref t)))) d2 = some (.dK (dF F fun x => .ref (wa x))) := by rw [upd_ne A.ne.symm]; exact A1.y
    have ep2 : (upd H1 d1 (.dK (putK (dF F fun x => .ref (ra x)) (kN b) (.ref t)))) p = some (.ins (He.ga K "Spread") dx1 (sF ll d1 d2)) := by rw [upd_ne A.nep1]; exact ep1
    obtain ⟨xs, ew, hxl⟩ := A1.wy a ha
    have nw : wa a ≠ d1 := ne_of ew A1.r (by intro q; cases q)
    have ew2 : (upd H1 d1 (.dK (putK (dF F fun x => .ref (ra x)) (kN b) (.ref t)))) (wa a) = some (.lst xs) := by rw [upd_ne nw]; exact ew
    have et2 := f2.tp _ _ et
    generalize upd H1 d1 (.dK (putK (dF F fun x => .ref (ra x)) (kN b) (.ref t))) = H2 at f2 e21 e22 ep2 ew2 et2 ⊢
    refine ⟨_, rfl, p, _, dx1, _, _, rfl, ep2, T.cl_Spread, T.n_Spread_ways, sF_ways _ _ _, _, rfl, d2, _, rfl, by rw [← dF_in (v := fun x => V.ref (wa x)) ha]; exact DGet.k (k := kN a) e22, _, rfl, small_line (by show 1 ≤ 100000; omega), fun g hg => ?_⟩
    have f3 : Fr [] H2 (upd H2 g (.lst [.ref pc])) := Fr.n0 hg
    have eg : (upd H2 g (.lst [.ref pc])) g = some (.lst [.ref pc]) := upd_same
    have e31 := f3.at_ e21
    have e32 := f3.at_ e22
    have ep3 := f3.at_ ep2
    have ew3 := f3.at_ ew2
    have et3 := f3.at_ et2
    generalize upd H2 g (.lst [.ref pc]) = H3 at f3 eg e31 e32 ep3 ew3 et3 ⊢
    refine ⟨wa a, g, xs, _, rfl, rfl, ew3, eg, (by show xs.length + 1 ≤ sizeLine; exact small_line (by omega)), fun c hc => ?_⟩
    have f4 : Fr [] H3 (upd H3 c (.lst (xs ++ [.ref pc]))) := Fr.n0 hc
    have ec : (upd H3 c (.lst (xs ++ [.ref pc]))) c = some (.lst (xs ++ [.ref pc])) := upd_same
    have e41 := f4.at_ e31
    have e42 := f4.at_ e32
    have ep4 := f4.at_ ep3
    have et4 := f4.at_ et3
    generalize upd H3 c (.lst (xs ++ [.ref pc])) = H4 at f4 ec e41 e42 ep4 et4 ⊢
    refine ⟨_, rfl, p, _, dx1, _, _, rfl, ep4, T.cl_Spread, T.n_Spread_ways, sF_ways _ _ _, _, rfl, d2, _, rfl, DPut.k (k := kN b) e42 (by rw [dF_len]; exact small_line' (by omega)), ?_⟩
    have f5 : Fr [d1, d2] H4 (upd H4 d2 (.dK (putK (dF F fun x => .ref (wa x)) (kN b) (.ref c)))) := (Fr.refl _ H4).mutD (.inl (by simp)) e42
    have fA : Fr [d1, d2] H (upd H4 d2 (.dK (putK (dF F fun x => .ref (wa x)) (kN b) (.ref c)))) := (((f1.nil.trans f2).trans f3.nil).trans f4.nil).trans f5
    have nc : c ≠ d2 := ne_of ec e42 (by intro q; cases q)
    have hc0 : H c = none := ((f1.nil.trans f2).trans f3.nil).free hc
    refine q _ _ _ (A.put (a := t) (c := c) (z := tms (rt a) z) (xs := xs ++ [.ref pc]) hb fA ?_ ?_ (f5.tp _ _ et4) ?_ ?_) (fun x hx => if_neg fun (e : x = b) => hb (e ▸ hx)) (by rw [if_pos rfl]; exact hc0) fA
    · rw [upd_ne A.ne]; exact e41
    · exact upd_same
    · rw [upd_ne nc]; exact ec
    · rw [List.length_append, List.length_singleton]; omega
/-! ### walk_from -/
/-- no piece lies partly in F -/
def ClosedF (bs : List Belt) (F : List Nat) : Prop := ∀ e, e ∈ bs → (e.g ∈ F ↔ e.t ∈ F)
theorem ClosedF.out {bs : List Belt} {F : List Nat} (h : ClosedF bs F) {a b : Nat} (c : Conn bs a b) (ha : a ∉ F) : b ∉ F := c.inv (P := fun x => x ∉ F) (fun e he => not_congr (h e he)) ha
theorem okR_red {n : Nat} {bs : List Belt} {r : List Nat} (B : Bal n bs r) {x f : Nat} (hx : x < n) (hf : f < n) : okR (red (nth r x) (nth r f)) := by
  have h1 := B.pos x hx
  have h2 := B.pos f hf
  have h3 := B.le6 x hx
  have h4 := B.le6 f hf
  have k := red_pos h1 h2
  have l := red_le (a := nth r x) (b := nth r f)
  exact ⟨k.1, k.2, by omega, by omega⟩
theorem okR_belt {gv tk : Nat} (h1 : 0 < gv) (h2 : 0 < tk) (h3 : gv < 2 ^ 100) (h4 : tk < 2 ^ 100) : okR (red gv tk) := by
  have k := red_pos h1 h2
  have l := red_le (a := gv) (b := tk)
  exact ⟨k.1, k.2, by omega, by omega⟩
theorem lt300 {a : Nat} (h : a < 2 ^ 100) : a < 2 ^ 300 := Nat.lt_of_lt_of_le h (Nat.pow_le_pow_right (by decide) (by decide))
def spWalk (K : PySem.W.Frag) : Sp := fun vs H Q _ => ∃ (p ll d1 d2 : Addr) (F : List Nat) (ra wa : Nat → Addr) (rt : Nat → Nat × Nat) (first n : Nat) (bs : List Belt) (r : List Nat), vs = [.ref p, nV first] ∧ SpAt K H p ll d1 d2 F ra wa rt ∧ Bls H ll bs ∧ Bal n bs r ∧ n ≤ 30 ∧ first < n ∧
  first ∉ F ∧ F.Nodup ∧ (∀ x, x ∈ F → x < n) ∧ ClosedF bs F ∧
  ∀ (H' : Hp) (F' : List Nat) (ra' wa' : Nat → Addr) (rt' : Nat → Nat × Nat), SpAt K H' p ll d1 d2 F' ra' wa' rt' → Bls H' ll bs → F'.Nodup → (∀ x, x ∈ F' → x < n) → (∀ x, x ∈ F' ↔ x ∈ F ∨ Conn bs first x) → (∀ x, x ∈ F → rt' x = rt x) →
    (∀ x, Conn bs first x → rt' x = red (nth r x) (nth r first)) → Fr [d1, d2] H H' → Q .non H'
theorem sc_Spread_walk_from : FnScope ["self", "first", "todo", "work", "number", "giver", "taker", "give", "take", "start"] ["self", "first"] (defScope s_Spread_walk_from) := ⟨rfl, rfl, rfl, by decide +kernel, rfl, by decide +kernel, by decide +kernel⟩
/-- what holds in the loops of walk_from: the spread, the works found anew G, those to do -/
structure WkAt (K : PySem.W.Frag) (H H' : Hp) (p ll d1 d2 td : Addr) (F G Td : List Nat) (ra wa : Nat → Addr) (rt rt0 : Nat → Nat × Nat) (r : List Nat) (first : Nat) : Prop where
  fr : Fr [d1, d2] H H'
  sp : SpAt K H' p ll d1 d2 (F ++ G) ra wa rt
  tdo : H' td = some (.lst (nVs Td))
  old : ∀ x, x ∈ F → rt x = rt0 x
  new : ∀ x, x ∈ G → rt x = red (nth r x) (nth r first)
  nt : ∀ x, x ∈ F ++ G → wa x ≠ td
theorem WkAt.go {K : PySem.W.Frag} {H H' H2 : Hp} {p ll d1 d2 td : Addr} {F G Td : List Nat} {ra wa : Nat → Addr} {rt rt0 : Nat → Nat × Nat} {r : List Nat} {first : Nat} (A : WkAt K H H' p ll d1 d2 td F G Td ra wa rt rt0 r first) (f : Fr [] H' H2) :
    WkAt K H H2 p ll d1 d2 td F G Td ra wa rt rt0 r first := ⟨A.fr.trans f.nil, A.sp.keep f, f.at_ A.tdo, A.old, A.new, A.nt⟩
theorem WkAt.tdn {K : PySem.W.Frag} {H H' : Hp} {p ll d1 d2 td : Addr} {F G Td : List Nat} {ra wa : Nat → Addr} {rt rt0 : Nat → Nat × Nat} {r : List Nat} {first : Nat} (A : WkAt K H H' p ll d1 d2 td F G Td ra wa rt rt0 r first) : td ∉ [d1, d2] := by
  have n1 : td ≠ d1 := ne_of A.tdo A.sp.r (by intro z; cases z)
  have n2 : td ≠ d2 := ne_of A.tdo A.sp.y (by intro z; cases z)
  simp [n1, n2]
/-- one work more is found -/
theorem WkAt.come {K : PySem.W.Frag} {H H' H8 : Hp} {p ll d1 d2 td : Addr} {F G Td : List Nat} {ra wa ra' wa' : Nat → Addr} {rt rt0 : Nat → Nat × Nat} {r : List Nat} {first wk y : Nat} {z : Nat × Nat} (A : WkAt K H H' p ll d1 d2 td F G Td ra wa rt rt0 r first)
    (S : SpAt K H8 p ll d1 d2 ((F ++ G) ++ [y]) ra' wa' (fun x => if x = y then tms (rt wk) z else rt x)) (hwa : ∀ x, x ∈ F ++ G → wa' x = wa x) (hy : H' (wa' y) = none) (f : Fr [d1, d2] H' H8) (hn : y ∉ F ++ G) (hz : tms (rt wk) z = red (nth r y) (nth r first)) :
    WkAt K H H8 p ll d1 d2 td F (G ++ [y]) Td ra' wa' (fun x => if x = y then tms (rt wk) z else rt x) rt0 r first := by
  have hm : ∀ x, x ∈ F ++ G → x ≠ y := fun x hx e => hn (e ▸ hx)
  refine ⟨A.fr.trans f, by rw [← List.append_assoc]; exact S, f.kp _ _ A.tdo A.tdn, fun x hx => ?_, fun x hx => ?_, fun x hx => ?_⟩
  · rw [if_neg (hm x (List.mem_append_left _ hx))]
    exact A.old x hx
  · rcases List.mem_append.mp hx with q | q
    · rw [if_neg (hm x (List.mem_append_right _ q))]
      exact A.new x q
    · rw [List.mem_singleton.mp q, if_pos rfl, hz]
  · rw [← List.append_assoc] at hx
    rcases List.mem_append.mp hx with q | q
    · rw [hwa x q]
      exact A.nt x q
    · rw [List.mem_singleton.mp q]
      exact (ne_of_none A.tdo hy).symm
/-- the list of those to do changes, the spread does not -/
theorem WkAt.todo {K : PySem.W.Frag} {H H' : Hp} {p ll d1 d2 td : Addr} {F G Td : List Nat} {ra wa : Nat → Addr} {rt rt0 : Nat → Nat × Nat} {r : List Nat} {first : Nat} (A : WkAt K H H' p ll d1 d2 td F G Td ra wa rt rt0 r first) (h0 : H td = none) (T2 : List Nat) :
    WkAt K H (upd H' td (.lst (nVs T2))) p ll d1 d2 td F G T2 ra wa rt rt0 r first := by
  have g : Fr [td] H' (upd H' td (.lst (nVs T2))) := (Fr.refl _ H').mutL (.inl (by simp)) A.tdo
  have hk := A.tdn
  simp only [List.mem_cons, List.not_mem_nil, or_false, not_or] at hk
  obtain ⟨dx7, ep7⟩ := A.sp.ob
  have ntp : p ≠ td := ne_of ep7 A.tdo (by intro z; cases z)
  refine ⟨A.fr.mutL (.inr h0) A.tdo, ⟨⟨dx7, g.kp _ _ ep7 (by simpa using ntp)⟩, g.kp _ _ A.sp.r (by simpa using fun e : d1 = td => hk.1 e.symm), g.kp _ _ A.sp.y (by simpa using fun e : d2 = td => hk.2 e.symm), A.sp.ne, fun x hx => g.tp _ _ (A.sp.tp x hx), fun x hx => ?_⟩, upd_same, A.old, A.new, A.nt⟩
  obtain ⟨xs, e, l⟩ := A.sp.wy x hx
  exact ⟨xs, g.kp _ _ e (by simpa using A.nt x hx), l⟩
theorem not_false_b {b : Bool} (h : (!b) = false) : b = true := by cases b <;> first | rfl | cases h
theorem ok_Spread_walk_from (T : Tx K mg) : Okf P w K mg base 5 (He.ma K (He.ga K "Spread") "walk_from") ["self", "first"] (spWalk K) := by
  obtain ⟨fC, GC, kC, bC⟩ := ok_Spread_come_to (P := P) (w := w) (base := base) T
  obtain ⟨fR, GR, kR, bR⟩ := ok_ratio (P := P) (w := w) (base := base) T
  refine okf_of T.df_Spread_walk_from sc_Spread_walk_from (fun _ _ _ _ _ _ us hl => match us, hl with | [_, _], _ => rfl) (fun vs H Q E h => ?_) (fun cdv A outer s H vs Q E hr h => ?_)
  · obtain ⟨p, ll, d1, d2, F, ra, wa, rt, first, n, bs, r, rfl, _⟩ := h
    rfl
  · obtain ⟨p, ll, d1, d2, F, ra, wa, rt, first, n, bs, r, rfl, A, hbl, B, hn, hfn, hfF, hFd, hFn, hcl, q⟩ := h
    have hu := hu_of hr
    have hr2 : Room 2 _ := hr.mono (by decide)
    have hw : Within n bs := fun e he => ⟨(B.bel e he).1, (B.bel e he).2.1⟩
    obtain ⟨dx, ep⟩ := A.ob
    have hFl : F.length ≤ n := nodup_le hFd hFn
    have nC : (sF ll d1 d2).lookup ("come_to" : Str) = none := sF_no _ _ _ (by decide +kernel) (by decide +kernel) (by decide +kernel)
    refine ⟨_, pss_cons (ps_dput hu (pe_fld (pv 0) rfl) (pv 1) (pe_tup (pa_cons pe_int (pa_cons pe_int pa_nil))) rfl)
      (pss_cons (ps_dput hu (pe_fld (pv 0) rfl) (pv 1) (pe_lst pa_nil) rfl)
      (pss_cons (ps_set (i := 2) sc_Spread_walk_from.nd rfl (.inl rfl) (pe_lst (pa_cons (pv 1) pa_nil)))
      (pss_one (ps_while PassesOwn.never (pt_truth (pv 2) (by intro _; rfl))
        (pss_cons (ps_set (i := 3) sc_Spread_walk_from.nd rfl (.inl rfl) (pe_bm0 PySem.F.plainAttrs_list PySem.F.slot_list_pop PySem.F.type_list_pop mt_pop (pv 2)))
        (pss_one (ps_for PassesOwn.never rfl (pi_enum (by rfl) T.b_enumerate (pa_cons (pe_fld (pv 0) rfl) pa_nil))
          (pg_tup rfl (pgs_cons (pg_name (i := 4) sc_Spread_walk_from.nd rfl (.inl rfl)) (pgs_cons (pg_tup rfl (pgs_cons (pg_name (i := 5) sc_Spread_walk_from.nd rfl (.inl rfl)) (pgs_cons (pg_name (i := 6) sc_Spread_walk_from.nd rfl (.inl rfl)) (pgs_cons (pg_name (i := 7) sc_Spread_walk_from.nd rfl (.inl rfl)) (pgs_cons (pg_name (i := 8) sc_Spread_walk_from.nd rfl (.inl rfl)) (pgs_cons (pg_name (i := 9) sc_Spread_walk_from.nd rfl (.inl rfl)) pgs_nil)))))) pgs_nil)))
          (Evl.pss_cut (ps_if (PW.pt (pw_and (pt_cmpR op_eq (pv 5) (pv 3) (nomark _)) (pw_and1 (pt_cmp (pc_dnotin hu (pv 6) (pe_fld (pv 0) rfl))))))
              (pss_cons (ps_expr (pe_meth (pv 0) T.cl_Spread T.m_Spread_come_to GC hr bC .nil pass0 (pa_cons (pv 3) (pa_cons (pv 6) (pa_cons (pe_call GR hr2 (by rfl) T.g_ratio kR bR .nil pass0 (pa_cons (pv 7) (pa_cons (pv 8) pa_nil))) (pa_cons (pe_tup (pa_cons (pv 4) (pa_cons pe_bl pa_nil))) pa_nil))))))
                (pss_one (ps_expr (pe_bm PySem.F.plainAttrs_list PySem.F.slot_list_append PySem.F.type_list_append mt_append (pv 2) (pa_cons (pv 6) pa_nil))))) pss_nil)
          (pss_one (ps_if (PW.pt (pw_and (pt_cmpR op_eq (pv 6) (pv 3) (nomark _)) (pw_and1 (pt_cmp (pc_dnotin hu (pv 5) (pe_fld (pv 0) rfl))))))
              (pss_cons (ps_expr (pe_meth (pv 0) T.cl_Spread T.m_Spread_come_to GC hr bC .nil pass0 (pa_cons (pv 3) (pa_cons (pv 5) (pa_cons (pe_call GR hr2 (by rfl) T.g_ratio kR bR .nil pass0 (pa_cons (pv 8) (pa_cons (pv 7) pa_nil))) (pa_cons (pe_tup (pa_cons (pv 4) (pa_cons pe_bl pa_nil))) pa_nil))))))
                (pss_one (ps_expr (pe_bm PySem.F.plainAttrs_list PySem.F.slot_list_append PySem.F.type_list_append mt_append (pv 2) (pa_cons (pv 5) pa_nil))))) pss_nil)))))))))), ?_⟩
    -- self.ratios[first] = (1, 1)
    refine ⟨small_line (by show 2 ≤ 100000; omega), fun t ht => ?_⟩
    have f1 : Fr [] H (upd H t (.tup [.int 1, .int 1])) := Fr.n0 ht
    have A1 := A.keep f1
    have hb1 : Bls (upd H t (.tup [.int 1, .int 1])) ll bs := hbl.kept f1 (by simp)
    have et : (upd H t (.tup [.int 1, .int 1])) t = some (.tup (pV (1, 1))) := upd_same
    generalize upd H t (.tup [.int 1, .int 1]) = H1 at f1 A1 hb1 et ⊢
    obtain ⟨dx1, ep1⟩ := A1.ob
    refine ⟨_, rfl, p, _, dx1, _, _, rfl, ep1, T.cl_Spread, T.n_Spread_ratios, sF_ratios _ _ _, _, rfl, d1, _, rfl, DPut.k (k := kN first) A1.r (by rw [dF_len]; exact small_line' (by omega)), ?_⟩
    have f2 : Fr [d1, d2] H1 (upd H1 d1 (.dK (putK (dF F fun x => .ref (ra x)) (kN first) (.ref t)))) := (Fr.refl _ H1).mutD (.inl (by simp)) A1.r
    have e21 : (upd H1 d1 (.dK (putK (dF F fun x => .ref (ra x)) (kN first) (.ref t)))) d1 = some (.dK (putK (dF F fun x => .ref (ra x)) (kN first) (.ref t))) := upd_same
    have e22 : (upd H1 d1 (.dK (putK (dF F fun x => .ref (ra x)) (kN first) (.ref t)))) d2 = some (.dK (dF F fun x => .ref (wa x))) := by rw [upd_ne A.ne.symm]; exact A1.y
    have ep2 : (upd H1 d1 (.dK (putK (dF F fun x => .ref (ra x)) (kN first) (.ref t)))) p = some (.ins (He.ga K "Spread") dx1 (sF ll d1 d2)) := by rw [upd_ne A.nep1]; exact ep1
    have et2 := f2.tp _ _ et
    generalize upd H1 d1 (.dK (putK (dF F fun x => .ref (ra x)) (kN first) (.ref t))) = H2 at f2 e21 e22 ep2 et2 ⊢
    -- self.ways[first] = []
    refine ⟨Nat.zero_le _, fun c hc => ?_⟩
    have f3 : Fr [] H2 (upd H2 c (.lst [])) := Fr.n0 hc
    have ec : (upd H2 c (.lst [])) c = some (.lst []) := upd_same
    have e31 := f3.at_ e21
    have e32 := f3.at_ e22
    have ep3 := f3.at_ ep2
    have et3 := f3.at_ et2
    generalize upd H2 c (.lst []) = H3 at f3 ec e31 e32 ep3 et3 ⊢
    refine ⟨_, rfl, p, _, dx1, _, _, rfl, ep3, T.cl_Spread, T.n_Spread_ways, sF_ways _ _ _, _, rfl, d2, _, rfl, DPut.k (k := kN first) e32 (by rw [dF_len]; exact small_line' (by omega)), ?_⟩
    have f4 : Fr [d1, d2] H3 (upd H3 d2 (.dK (putK (dF F fun x => .ref (wa x)) (kN first) (.ref c)))) := (Fr.refl _ H3).mutD (.inl (by simp)) e32
    have F4 : Fr [d1, d2] H (upd H3 d2 (.dK (putK (dF F fun x => .ref (wa x)) (kN first) (.ref c)))) := ((f1.nil.trans f2).trans f3.nil).trans f4
    have nc : c ≠ d2 := ne_of ec e32 (by intro z; cases z)
    have A4 := A.put (a := t) (c := c) (z := (1, 1)) (xs := []) hfF F4 (by rw [upd_ne A.ne]; exact e31) upd_same (f4.tp _ _ et3) (by rw [upd_ne nc]; exact ec) (Nat.zero_le _)
    have nl : ∀ {H0 : Hp}, Bls H0 ll bs → (∃ kv, H0 d1 = some (.dK kv)) → (∃ kv, H0 d2 = some (.dK kv)) → ll ∉ [d1, d2] := fun {H0} ⟨as, e, _⟩ ⟨k1, h1⟩ ⟨k2, h2⟩ => by
      have n1 : ll ≠ d1 := ne_of e h1 (by intro z; cases z)
      have n2 : ll ≠ d2 := ne_of e h2 (by intro z; cases z)
      simp [n1, n2]
    have nll : ll ∉ [d1, d2] := nl hbl ⟨_, A.r⟩ ⟨_, A.y⟩
    have hb4 := hbl.kept F4 nll
    generalize upd H3 d2 (.dK (putK (dF F fun x => .ref (wa x)) (kN first) (.ref c))) = H4 at F4 A4 hb4 ⊢
    -- todo = [first]
    refine ⟨_, rfl, small_line (by show 1 ≤ 100000; omega), fun td htd => ?_⟩
    have f5 : Fr [] H4 (upd H4 td (.lst [nV first])) := Fr.n0 htd
    have htd0 := F4.free htd
    have W5 : WkAt K H (upd H4 td (.lst [nV first])) p ll d1 d2 td F [first] [first] _ _ _ rt r first := ⟨F4.trans f5.nil, A4.keep f5, upd_same, fun x hx => if_neg fun (e : x = first) => hfF (e ▸ hx), fun x hx => by
      rw [if_pos (List.mem_singleton.mp hx), List.mem_singleton.mp hx, red_self (B.pos first hfn)], fun x hx => by
      obtain ⟨xs, e, _⟩ := A4.wy x hx
      exact ne_of_none e htd⟩
    generalize upd H4 td (.lst [nV first]) = H5 at f5 W5 ⊢
    refine ⟨fun m σ H' => ∃ (G Td : List Nat) (ra' wa' : Nat → Addr) (rt' : Nat → Nat × Nat) (v3 v4 v5 v6 v7 v8 v9 : Option V), σ = [some (.ref p), some (nV first), some (.ref td), v3, v4, v5, v6, v7, v8, v9] ∧ WkAt K H H' p ll d1 d2 td F G Td ra' wa' rt' rt r first ∧ Rch bs n first G Td ∧ m = Td.length + 2 * n - 2 * G.length ∧ m ≤ 2 * n,
      ⟨_, [first], [first], _, _, _, none, none, none, none, none, none, none, rfl, W5, rch_start hfn, rfl, by simp; omega⟩, ?_⟩
    rintro m σ H6 ⟨G, Td, ra6, wa6, rt6, v3, v4, v5, v6, v7, v8, v9, rfl, W6, R, hm, hm2⟩
    have hGn := nodup_le R.nd R.lt
    refine ⟨_, rfl, _, .inl ⟨_, SqL.of W6.tdo, rfl⟩, ?_⟩
    cases hT : Td with
    | nil =>
      subst hT
      have hG : ∀ x, x ∈ G ↔ Conn bs first x := R.all
      refine q H6 (F ++ G) ra6 wa6 rt6 W6.sp (hbl.kept W6.fr nll) ?_ (fun x hx => ?_) (fun x => ?_) W6.old (fun x hx => W6.new x ((hG x).mpr hx)) W6.fr
      · rw [List.nodup_append]
        refine ⟨hFd, R.nd, fun a ha b hb e => ?_⟩
        subst e
        exact hcl.out ((hG a).mp hb) hfF ha
      · rcases List.mem_append.mp hx with z | z
        · exact hFn x z
        · exact R.lt x z
      · rw [List.mem_append, hG x]
    | cons t0 tr =>
      have hTd : Td ≠ [] := by rw [hT]; exact List.cons_ne_nil _ _
      rw [← hT]
      have hb : (!(nVs Td).isEmpty) = true := by rw [hT]; rfl
      rw [hb]
      obtain ⟨Td', wk, eT⟩ := dropLast_snoc Td hTd
      subst eT
      have M0 : Mid bs n first m wk G Td' := R.pop (by omega)
      refine ⟨fun σ' H' => ∃ (G' T' : List Nat) (ra' wa' : Nat → Addr) (rt' : Nat → Nat × Nat) (v3 v4 v5 v6 v7 v8 v9 : Option V), σ' = [some (.ref p), some (nV first), some (.ref td), v3, v4, v5, v6, v7, v8, v9] ∧ WkAt K H H' p ll d1 d2 td F G' T' ra' wa' rt' rt r first ∧ Rch bs n first G' T' ∧ T'.length + 2 * n < m + 2 * G'.length, fun σ' H' hN => ?_, ?_⟩
      · obtain ⟨G', T', ra', wa', rt', a3, a4, a5, a6, a7, a8, a9, e1, e2, e3, e4⟩ := hN
        have := nodup_le e3.nd e3.lt
        exact ⟨_, by omega, G', T', ra', wa', rt', a3, a4, a5, a6, a7, a8, a9, e1, e2, e3, rfl, by omega⟩
      · have hlast : (nVs (Td' ++ [wk]))[(nVs (Td' ++ [wk])).length - 1]? = some (nV wk) := by
          rw [nVs_len, List.length_append, List.length_singleton, nVs_app, List.getElem?_append_right (by rw [nVs_len]; omega), nVs_len]
          simp [nVs]
        have hdl : (nVs (Td' ++ [wk])).dropLast = nVs Td' := by
          rw [nVs_app]
          show (nVs Td' ++ [nV wk]).dropLast = _
          rw [List.dropLast_concat]
        refine ⟨_, rfl, .inl ⟨rfl, _, SqL.of W6.tdo⟩, td, _, _, rfl, rfl, W6.tdo, hlast, ?_⟩
        rw [hdl]
        have A4 := W6.todo htd0 Td'
        generalize upd H6 td (.lst (nVs Td')) = H7 at A4 ⊢
        obtain ⟨as, ell, tps⟩ := hbl
        have wkn : wk < n := M0.lt wk M0.wkF
        have wkc : Conn bs first wk := M0.con wk M0.wkF
        obtain ⟨dx7, ep7⟩ := A4.sp.ob
        have hIn : ∀ {G' T' : List Nat} {y : Nat}, Mid bs n first m wk G' T' → Edge bs wk y → y ∈ F ++ G' → y ∈ G' := fun {G' T' y} M he hy => (List.mem_append.mp hy).elim (fun z => absurd z (hcl.out (wkc.trans (.one he)) hfF)) id
        refine ⟨_, rfl, p, _, dx7, _, _, rfl, ep7, T.cl_Spread, T.n_Spread_lines, sF_lines _ _ _, ll, rV as, rfl, SqL.of (A4.fr.kp _ _ ell nll), for_enumL (K := K) (a := ll) (xs := rV as) (fun i σ' H' => ∃ (G' T' : List Nat) (ra' wa' : Nat → Addr) (rt' : Nat → Nat × Nat) (v4 v5 v6 v7 v8 v9 : Option V), σ' = [some (.ref p), some (nV first), some (.ref td), some (nV wk), v4, v5, v6, v7, v8, v9] ∧ WkAt K H H' p ll d1 d2 td F G' T' ra' wa' rt' rt r first ∧ Mid bs n first m wk G' T' ∧
            ∀ (j : Nat) (e : Belt), j < i → bs[j]? = some e → (e.g = wk → e.t ∈ G') ∧ (e.t = wk → e.g ∈ G'))
          ⟨G, Td', _, _, _, v4, v5, v6, v7, v8, v9, rfl, A4, M0, fun j e hj => absurd hj (Nat.not_lt_zero _)⟩ (fun i σ' H' ⟨_, _, _, _, _, _, _, _, _, _, _, _, A, _⟩ => SqL.of (A.fr.kp _ _ ell nll)) ?_ ?_⟩
        · rintro i y T0 σ' H5 hi ⟨G', T', ra', wa', rt', a4, a5, a6, a7, a8, a9, rfl, A5, M5, hdone⟩ hT0
          obtain ⟨a, ha, rfl⟩ := of_rV hi
          obtain ⟨b, hb, hta⟩ := tps.at_ ha
          have hbm : b ∈ bs := List.mem_of_getElem? hb
          obtain ⟨hbg, hbt, hgv, htk, hgv2, htk2, hst2⟩ := B.bel b hbm
          have A5' := A5.go (Fr.n0 (o := .tup [nV i, .ref a]) hT0)
          have eT0 : (upd H5 T0 (.tup [nV i, .ref a])) T0 = some (.tup [nV i, .ref a]) := upd_same
          generalize upd H5 T0 (.tup [nV i, .ref a]) = H8 at A5' eT0 ⊢
          refine ⟨T0, _, rfl, SqT.of eT0, rfl, _, _, rfl, _, _, rfl, a, _, rfl, SqT.of (A5'.fr.tp _ _ hta), rfl, _, _, rfl, _, _, rfl, _, _, rfl, _, _, rfl, _, _, rfl, rfl, rfl, ?_⟩
          refine Evl.q_cut (M := fun σ' H' => ∃ (G' T' : List Nat) (ra' wa' : Nat → Addr) (rt' : Nat → Nat × Nat), σ' = [some (.ref p), some (nV first), some (.ref td), some (nV wk), some (nV i), some (nV b.g), some (nV b.t), some (nV b.gv), some (nV b.tk), some (nV b.st)] ∧ WkAt K H H' p ll d1 d2 td F G' T' ra' wa' rt' rt r first ∧ Mid bs n first m wk G' T' ∧
            (∀ (j : Nat) (e : Belt), j < i → bs[j]? = some e → (e.g = wk → e.t ∈ G') ∧ (e.t = wk → e.g ∈ G')) ∧ (b.g = wk → b.t ∈ G')) ?_ ?_
          · obtain ⟨dx8, ep8⟩ := A5'.sp.ob
            refine Evl.s_when (b := decide (b.g = wk) && !decide (b.t ∈ F ++ G')) (Evl.et_and (et_eqN (Evl.ev_var rfl) (Evl.ev_var rfl)) fun _ => Evl.et_B (ev_dnotin (Evl.ev_var rfl) (ev_fld (Evl.ev_var rfl) ep8 T.cl_Spread T.n_Spread_ratios (sF_ratios _ _ _)) A5'.sp.r)) (fun hc H6 e6 => ?_) (fun hc H6 e6 => ?_)
            · have A6 := A5'.go (.of_ex e6)
              obtain ⟨c1, c2⟩ := Bool.and_eq_true_iff.mp hc
              have hg : b.g = wk := of_decide_eq_true c1
              have hnt : b.t ∉ F ++ G' := by simpa using c2
              have hwkG : wk ∈ F ++ G' := List.mem_append_right _ M5.wkF
              obtain ⟨dx6, ep6⟩ := A6.sp.ob
              refine ⟨_, rfl, p, dx6, _, rfl, ep6, nC, _, rfl, _, rfl, _, rfl, _, rfl, b.gv, b.tk, rfl, hgv, htk, lt300 hgv2, lt300 htk2, fun fa hfa => ?_⟩
              have A7 := A6.go (Fr.n0 (o := .tup (pV (red b.gv b.tk))) hfa)
              have efa : (upd H6 fa (.tup (pV (red b.gv b.tk)))) fa = some (.tup (pV (red b.gv b.tk))) := upd_same
              generalize upd H6 fa (.tup (pV (red b.gv b.tk))) = H7 at A7 efa ⊢
              refine ⟨_, rfl, small_line (by show 2 ≤ 100000; omega), fun pc hpc => ?_⟩
              have A9 := A7.go (Fr.n0 (o := .tup [nV i, .bl true]) hpc)
              have efa9 := (Fr.n0 (o := .tup [nV i, .bl true]) hpc).at_ efa
              generalize upd H7 pc (.tup [nV i, .bl true]) = H9 at A9 efa9 ⊢
              have hrw := A9.new wk M5.wkF
              have hz := red_step (B.pos wk wkn) (B.pos first hfn) hgv htk (hg ▸ B.bal b hbm)
              have hlen : (F ++ G').length < 1000 := by
                have h1 := nodup_le M5.nd M5.lt
                rw [List.length_append]
                omega
              refine ⟨p, ll, d1, d2, F ++ G', _, _, _, wk, b.t, fa, pc, red b.gv b.tk, rfl, A9.sp, hwkG, hnt, efa9, okR_belt hgv htk hgv2 htk2, by rw [hrw]; exact okR_red B wkn hfn, hlen, fun H10 ra10 wa10 S10 hwa hy0 f10 => ?_⟩
              have A10 := A9.come S10 hwa hy0 f10 hnt (by rw [hrw]; exact hz)
              have hsz2 : T'.length < 100000 := by have := M5.sz; have := nodup_le M5.nd M5.lt; omega
              refine ⟨_, rfl, .inl ⟨rfl, _, SqL.of A10.tdo⟩, _, rfl, td, _, _, rfl, rfl, A10.tdo, (by rw [nVs_len]; exact small_line' hsz2), ?_⟩
              have A11 := A10.todo htd0 (T' ++ [b.t])
              rw [nVs_app] at A11
              refine ⟨G' ++ [b.t], T' ++ [b.t], _, _, _, rfl, A11, M5.push (fun z => hnt (List.mem_append_right _ z)) hbt ⟨b, hbm, .inl ⟨hg, rfl⟩⟩, fun j e hj he => ?_, fun _ => List.mem_append_right _ (List.mem_singleton.mpr rfl)⟩
              have k := hdone j e hj he
              exact ⟨fun z => List.mem_append_left _ (k.1 z), fun z => List.mem_append_left _ (k.2 z)⟩
            · refine ⟨G', T', _, _, _, rfl, A5'.go (.of_ex e6), M5, hdone, fun hg => ?_⟩
              rw [decide_eq_true hg, Bool.true_and] at hc
              exact hIn M5 ⟨b, hbm, .inl ⟨hg, rfl⟩⟩ (of_decide_eq_true (not_false_b hc))
          · rintro σ6 H6 ⟨G6, T6, ra6', wa6', rt6', rfl, A6, M6, hdone6, hg6⟩
            obtain ⟨dx8, ep8⟩ := A6.sp.ob
            refine Evl.s_when (b := decide (b.t = wk) && !decide (b.g ∈ F ++ G6)) (Evl.et_and (et_eqN (Evl.ev_var rfl) (Evl.ev_var rfl)) fun _ => Evl.et_B (ev_dnotin (Evl.ev_var rfl) (ev_fld (Evl.ev_var rfl) ep8 T.cl_Spread T.n_Spread_ratios (sF_ratios _ _ _)) A6.sp.r)) (fun hc H7b e7 => ?_) (fun hc H7 e7 => ?_)
            · have A6b := A6.go (.of_ex e7)
              obtain ⟨c1, c2⟩ := Bool.and_eq_true_iff.mp hc
              have hg : b.t = wk := of_decide_eq_true c1
              have hnt : b.g ∉ F ++ G6 := by simpa using c2
              have hwkG : wk ∈ F ++ G6 := List.mem_append_right _ M6.wkF
              obtain ⟨dx6, ep6⟩ := A6b.sp.ob
              refine ⟨_, rfl, p, dx6, _, rfl, ep6, nC, _, rfl, _, rfl, _, rfl, _, rfl, b.tk, b.gv, rfl, htk, hgv, lt300 htk2, lt300 hgv2, fun fa hfa => ?_⟩
              have A7 := A6b.go (Fr.n0 (o := .tup (pV (red b.tk b.gv))) hfa)
              have efa : (upd H7b fa (.tup (pV (red b.tk b.gv)))) fa = some (.tup (pV (red b.tk b.gv))) := upd_same
              generalize upd H7b fa (.tup (pV (red b.tk b.gv))) = H7 at A7 efa ⊢
              refine ⟨_, rfl, small_line (by show 2 ≤ 100000; omega), fun pc hpc => ?_⟩
              have A9 := A7.go (Fr.n0 (o := .tup [nV i, .bl false]) hpc)
              have efa9 := (Fr.n0 (o := .tup [nV i, .bl false]) hpc).at_ efa
              generalize upd H7 pc (.tup [nV i, .bl false]) = H9 at A9 efa9 ⊢
              have hrw := A9.new wk M6.wkF
              have hz := red_step (B.pos wk wkn) (B.pos first hfn) htk hgv (hg ▸ (B.bal b hbm).symm)
              have hlen : (F ++ G6).length < 1000 := by
                have h1 := nodup_le M6.nd M6.lt
                rw [List.length_append]
                omega
              refine ⟨p, ll, d1, d2, F ++ G6, _, _, _, wk, b.g, fa, pc, red b.tk b.gv, rfl, A9.sp, hwkG, hnt, efa9, okR_belt htk hgv htk2 hgv2, by rw [hrw]; exact okR_red B wkn hfn, hlen, fun H10 ra10 wa10 S10 hwa hy0 f10 => ?_⟩
              have A10 := A9.come S10 hwa hy0 f10 hnt (by rw [hrw]; exact hz)
              have hsz2 : T6.length < 100000 := by have := M6.sz; have := nodup_le M6.nd M6.lt; omega
              refine ⟨_, rfl, .inl ⟨rfl, _, SqL.of A10.tdo⟩, _, rfl, td, _, _, rfl, rfl, A10.tdo, (by rw [nVs_len]; exact small_line' hsz2), ?_⟩
              have A11 := A10.todo htd0 (T6 ++ [b.g])
              rw [nVs_app] at A11
              refine ⟨G6 ++ [b.g], T6 ++ [b.g], _, _, _, _, _, _, _, _, _, rfl, A11, M6.push (fun z => hnt (List.mem_append_right _ z)) hbg ⟨b, hbm, .inr ⟨hg, rfl⟩⟩, fun j e hj he => ?_⟩
              rcases Nat.lt_succ_iff_lt_or_eq.mp hj with z | z
              · have k := hdone6 j e z he
                exact ⟨fun z => List.mem_append_left _ (k.1 z), fun z => List.mem_append_left _ (k.2 z)⟩
              · subst z
                have eb : b = e := Option.some.inj (hb.symm.trans he)
                subst eb
                exact ⟨fun z => List.mem_append_left _ (hg6 z), fun _ => List.mem_append_right _ (List.mem_singleton.mpr rfl)⟩
            · refine ⟨G6, T6, _, _, _, _, _, _, _, _, _, rfl, A6.go (.of_ex e7), M6, fun j e hj he => ?_⟩
              rcases Nat.lt_succ_iff_lt_or_eq.mp hj with z | z
              · exact hdone6 j e z he
              · subst z
                have eb : b = e := Option.some.inj (hb.symm.trans he)
                subst eb
                refine ⟨hg6, fun hg => ?_⟩
                rw [decide_eq_true hg, Bool.true_and] at hc
                exact hIn M6 ⟨b, hbm, .inr ⟨hg, rfl⟩⟩ (of_decide_eq_true (not_false_b hc))
        · rintro σ' H5 ⟨G', T', ra', wa', rt', a4, a5, a6, a7, a8, a9, rfl, A5, M5, hdone⟩
          obtain ⟨R5, hs5⟩ := M5.fin fun e he => by
            obtain ⟨j, hj⟩ := List.getElem?_of_mem he
            have hjl := (List.getElem?_eq_some_iff.mp hj).1
            exact hdone j e (by rw [rV_len, tps.1]; exact hjl) hj
          exact ⟨G', T', _, _, _, _, _, _, _, _, _, _, rfl, A5, R5, hs5⟩
/-! ### odd_belt -/
def spOdd (K : PySem.W.Frag) : Sp := fun vs H Q _ => ∃ (p ll d1 d2 : Addr) (F : List Nat) (ra wa : Nat → Addr) (rt : Nat → Nat × Nat) (bs : List Belt), vs = [.ref p] ∧ SpAt K H p ll d1 d2 F ra wa rt ∧ Bls H ll bs ∧ (∀ e, e ∈ bs → e.g ∈ F ∧ e.t ∈ F ∧ okR (rt e.g) ∧ 0 < e.gv ∧ 0 < e.tk ∧ e.gv < 2 ^ 100 ∧ e.tk < 2 ^ 100 ∧ tms (rt e.g) (red e.gv e.tk) = rt e.t) ∧
  RV .non H Q
theorem sc_Spread_odd_belt : FnScope ["self", "number", "giver", "taker", "give", "take", "start"] ["self"] (defScope s_Spread_odd_belt) := ⟨rfl, rfl, rfl, by decide +kernel, rfl, by decide +kernel, by decide +kernel⟩
theorem pV_nVs (x : Nat × Nat) : pV x = nVs [x.1, x.2] := rfl
theorem ok_Spread_odd_belt (T : Tx K mg) : Okf P w K mg base 4 (He.ma K (He.ga K "Spread") "odd_belt") ["self"] (spOdd K) := by
  obtain ⟨fT, GT, kT, bT⟩ := ok_times (P := P) (w := w) (base := base) T
  obtain ⟨fR, GR, kR, bR⟩ := ok_ratio (P := P) (w := w) (base := base) T
  refine okf_of T.df_Spread_odd_belt sc_Spread_odd_belt (fun _ _ _ _ _ _ us hl => match us, hl with | [_], _ => rfl) (fun vs H Q E h => ?_) (fun cdv A outer s H vs Q E hr h => ?_)
  · obtain ⟨p, ll, d1, d2, F, ra, wa, rt, bs, rfl, _⟩ := h
    rfl
  · obtain ⟨p, ll, d1, d2, F, ra, wa, rt, bs, rfl, A, ⟨as, ell, tps⟩, hb, q⟩ := h
    have hu := hu_of hr
    have hr2 : Room 2 _ := hr.mono (by decide)
    obtain ⟨dx, ep⟩ := A.ob
    refine ⟨_, pss_cons (ps_for PassesOwn.never rfl (pi_enum (by rfl) T.b_enumerate (pa_cons (pe_fld (pv 0) rfl) pa_nil))
          (pg_tup rfl (pgs_cons (pg_name (i := 1) sc_Spread_odd_belt.nd rfl (.inl rfl)) (pgs_cons (pg_tup rfl (pgs_cons (pg_name (i := 2) sc_Spread_odd_belt.nd rfl (.inl rfl)) (pgs_cons (pg_name (i := 3) sc_Spread_odd_belt.nd rfl (.inl rfl)) (pgs_cons (pg_name (i := 4) sc_Spread_odd_belt.nd rfl (.inl rfl)) (pgs_cons (pg_name (i := 5) sc_Spread_odd_belt.nd rfl (.inl rfl)) (pgs_cons (pg_name (i := 6) sc_Spread_odd_belt.nd rfl (.inl rfl)) pgs_nil)))))) pgs_nil)))
          (pss_one (ps_if (pt_cmpR (op_neD hr.units) (pe_call GT hr (by rfl) T.g_times kT bT .nil pass0 (pa_cons (pe_dget hu (pe_fld (pv 0) rfl) (pv 2) (fun _ _ => rfl)) (pa_cons (pe_call GR hr2 (by rfl) T.g_ratio kR bR .nil pass0 (pa_cons (pv 4) (pa_cons (pv 5) pa_nil))) pa_nil))) (pe_dget hu (pe_fld (pv 0) rfl) (pv 3) (fun _ _ => rfl)) (nomark _))
            (pss_one (ps_ret (pv 1))) pss_nil)))
      (pss_one (ps_ret pe_non)), ?_⟩
    refine ⟨_, rfl, p, _, dx, _, _, rfl, ep, T.cl_Spread, T.n_Spread_lines, sF_lines _ _ _, ll, rV as, rfl, SqL.of ell, for_enumL (K := K) (a := ll) (xs := rV as) (fun i σ' H' => ∃ (v1 v2 v3 v4 v5 v6 : Option V), σ' = [some (.ref p), v1, v2, v3, v4, v5, v6] ∧ Fr [] H H')
          ⟨_, _, _, _, _, _, rfl, Fr.refl _ _⟩ (fun i σ' H' ⟨_, _, _, _, _, _, _, f⟩ => SqL.of (f.at_ ell)) ?_ ?_⟩
    · rintro i y T0 σ' H5 hi ⟨a1, a2, a3, a4, a5, a6, rfl, f5⟩ hT0
      obtain ⟨a, ha, rfl⟩ := of_rV hi
      obtain ⟨b, hbi, hta⟩ := tps.at_ ha
      obtain ⟨hg, ht, hok, hgv, htk, hgv2, htk2, heq⟩ := hb b (List.mem_of_getElem? hbi)
      have f6 : Fr [] H (upd H5 T0 (.tup [nV i, .ref a])) := f5.new hT0
      have eT0 : (upd H5 T0 (.tup [nV i, .ref a])) T0 = some (.tup [nV i, .ref a]) := upd_same
      generalize upd H5 T0 (.tup [nV i, .ref a]) = H6 at f6 eT0 ⊢
      refine ⟨T0, _, rfl, SqT.of eT0, rfl, _, _, rfl, _, _, rfl, a, _, rfl, SqT.of (f6.tp _ _ hta), rfl, _, _, rfl, _, _, rfl, _, _, rfl, _, _, rfl, _, _, rfl, rfl, rfl, ?_⟩
      have A6 := A.keep f6
      obtain ⟨dx6, ep6⟩ := A6.ob
      refine ⟨_, rfl, p, _, dx6, _, _, rfl, ep6, T.cl_Spread, T.n_Spread_ratios, sF_ratios _ _ _, _, rfl, d1, _, rfl, by rw [← dF_in (v := fun x => V.ref (ra x)) hg]; exact DGet.k (k := kN b.g) A6.r, _, rfl, _, rfl, b.gv, b.tk, rfl, hgv, htk, lt300 hgv2, lt300 htk2, fun fa hfa => ?_⟩
      have f7 : Fr [] H6 (upd H6 fa (.tup (pV (red b.gv b.tk)))) := Fr.n0 hfa
      have efa : (upd H6 fa (.tup (pV (red b.gv b.tk)))) fa = some (.tup (pV (red b.gv b.tk))) := upd_same
      have A7 := A6.keep f7
      have F7 := f6.trans f7
      generalize upd H6 fa (.tup (pV (red b.gv b.tk))) = H7 at f7 efa A7 F7 ⊢
      obtain ⟨k1, k2, k3, k4⟩ := okR_belt hgv htk hgv2 htk2
      obtain ⟨l1, l2, l3, l4⟩ := hok
      refine ⟨ra b.g, fa, rt b.g, red b.gv b.tk, rfl, A7.tp b.g hg, efa, l1, l2, k1, k2, l3, l4, k3, k4, fun r hrn => ?_⟩
      have f8 : Fr [] H7 (upd H7 r (.tup (pV (tms (rt b.g) (red b.gv b.tk))))) := Fr.n0 hrn
      have er : (upd H7 r (.tup (pV (tms (rt b.g) (red b.gv b.tk))))) r = some (.tup (pV (tms (rt b.g) (red b.gv b.tk)))) := upd_same
      have A8 := A7.keep f8
      have F8 := F7.trans f8
      generalize upd H7 r (.tup (pV (tms (rt b.g) (red b.gv b.tk)))) = H8 at f8 er A8 F8 ⊢
      obtain ⟨dx8, ep8⟩ := A8.ob
      rw [heq, pV_nVs] at er
      refine ⟨_, rfl, p, _, dx8, _, _, rfl, ep8, T.cl_Spread, T.n_Spread_ratios, sF_ratios _ _ _, _, rfl, d1, _, rfl, by rw [← dF_in (v := fun x => V.ref (ra x)) ht]; exact DGet.k (k := kN b.t) A8.r, ?_⟩
      have et8 := A8.tp b.t ht
      rw [pV_nVs] at et8
      exact ev_neT er et8 H8 (Evl.Ex.refl _) _ fun H9 e9 => ⟨_, rfl, _, _, _, _, _, _, rfl, F8.trans (.of_ex e9)⟩
    · rintro σ' H5 ⟨a1, a2, a3, a4, a5, a6, rfl, f5⟩
      exact q H5 f5
end
/-! ### comprehensions over lists -/
section
open Evl
variable {K : PySem.W.Frag} {σ : L2.St} {H : Hp} {te tl : TE}
theorem el_map {a : Addr} {xs ys : List V} {j : Nat} {vs : List Nat} (h : Ev tl σ H (.ref a)) (hx : SqL K H a xs) (hz : xs.length ≤ 40000) (hl : ys.length = xs.length) (hw : ∀ x, wipe ((wipe σ vs).set j (some x)) vs = wipe σ vs)
    (he : ∀ (i : Nat) (x y : V) H1, Ex H H1 → xs[i]? = some x → ys[i]? = some y → Ev te ((wipe σ vs).set j (some x)) H1 y) : EvL (tLc (iList K tl) (gName j) tYes te vs) σ H ys := by
  have k := el_lcL (te := te) (t := tYes) (fun _ => true) (fun i => ys.getD i .non) h hx hz hw (fun i x H1 e hi => et_yes) (fun i x H1 e hi _ => by
    have hil := (List.getElem?_eq_some_iff.mp hi).1
    have hy : ys[i]? = some (ys.getD i .non) := by rw [List.getD_eq_getElem?_getD, List.getElem?_eq_getElem (by omega)]; rfl
    exact he i x _ H1 e hi hy)
  rw [given_all] at k
  rw [range_map_len _ ys hl fun i x hx => by rw [List.getD_eq_getElem?_getD, hx]; rfl] at k
  exact k
/-- over a new list -/
theorem el_mapX {xs ys : List V} {j : Nat} {vs : List Nat} (h : EvL tl σ H xs) (hz : xs.length ≤ 40000) (hl : ys.length = xs.length) (hw : ∀ x, wipe ((wipe σ vs).set j (some x)) vs = wipe σ vs)
    (he : ∀ (i : Nat) (x y : V) H1, Ex H H1 → xs[i]? = some x → ys[i]? = some y → Ev te ((wipe σ vs).set j (some x)) H1 y) : EvL (tLc (iList K tl) (gName j) tYes te vs) σ H ys := by
  have k := el_lcNL (K := K) (te := te) (t := tYes) (fun _ => true) (fun i => ys.getD i .non) h hz hw (fun i x H1 e hi => et_yes) (fun i x H1 e hi _ => by
    have hil := (List.getElem?_eq_some_iff.mp hi).1
    have hy : ys[i]? = some (ys.getD i .non) := by rw [List.getD_eq_getElem?_getD, List.getElem?_eq_getElem (by omega)]; rfl
    exact he i x _ H1 e hi hy)
  rw [given_all] at k
  rw [range_map_len _ ys hl fun i x hx => by rw [List.getD_eq_getElem?_getD, hx]; rfl] at k
  exact k
/-- over a list of numbers -/
theorem el_mapN {a : Addr} {L : List Nat} {f : Nat → Nat} {j : Nat} {vs : List Nat} (h : Ev tl σ H (.ref a)) (hx : SqL K H a (nVs L)) (hz : L.length ≤ 40000) (hw : ∀ x, wipe ((wipe σ vs).set j (some x)) vs = wipe σ vs)
    (he : ∀ (i x : Nat) H1, Ex H H1 → L[i]? = some x → Ev te ((wipe σ vs).set j (some (nV x))) H1 (nV (f x))) : EvL (tLc (iList K tl) (gName j) tYes te vs) σ H (nVs (L.map f)) :=
  el_map h hx (by rw [nVs_len]; exact hz) (by rw [nVs_len, nVs_len, List.length_map]) hw fun i v y H1 e h1 h2 => by
    obtain ⟨x, hx, rfl⟩ := of_nVs h1
    rw [nVs_at (x := f x) (by rw [List.getElem?_map, hx]; rfl)] at h2
    rw [← Option.some.inj h2]
    exact he i x H1 e hx
end
section
variable {P : Program} {w : World} {K : PySem.W.Frag} {mg : Str → Option Value} {base : Heap}
/-! ### whole_rates -/
def spWhole : Sp := fun vs H Q _ => ∃ (d l : Addr) (F L : List Nat) (ra : Nat → Addr) (r : List Nat) (rf : Nat), vs = [.ref d, .ref l] ∧ H d = some (.dK (dF F fun x => .ref (ra x))) ∧ H l = some (.lst (nVs L)) ∧ (∀ x, x ∈ L → x ∈ F ∧ H (ra x) = some (.tup (pV (red (nth r x) rf))) ∧ 0 < nth r x ∧ nth r x ≤ 6) ∧
  0 < rf ∧ rf ≤ 6 ∧ gcdL (L.map (nth r)) = 1 ∧ L.length ≤ 30 ∧ RL (nVs (L.map (nth r))) H Q
theorem sc_whole_rates : FnScope ["ratios", "piece", "common", "work", "numbers", "both", "number"] ["ratios", "piece"] (defScope s_whole_rates) := ⟨rfl, rfl, rfl, by decide +kernel, rfl, by decide +kernel, by decide +kernel⟩
theorem ok_whole_rates (T : Tx K mg) : Okf P w K mg base 3 (He.ga K "whole_rates") ["ratios", "piece"] spWhole := by
  obtain ⟨fM, GM, kM, bM⟩ := ok_multiple (P := P) (w := w) (base := base) T
  obtain ⟨fD, GD, kD, bD⟩ := ok_divisor (P := P) (w := w) (base := base) T
  refine okf_of T.df_whole_rates sc_whole_rates (fun _ _ _ _ _ _ us hl => match us, hl with | [_, _], _ => rfl) (fun vs H Q E h => ?_) (fun cdv A outer s H vs Q E hr h => ?_)
  · obtain ⟨d, l, F, L, ra, r, rf, rfl, _⟩ := h
    rfl
  · obtain ⟨d, l, F, L, ra, r, rf, rfl, hd, hl, hL, hf, hf6, hg, hn, q⟩ := h
    have hu := hu_of hr
    have hr1 : Room 1 _ := hr.mono (by decide)
    refine ⟨_, pss_cons (ps_set (i := 2) sc_whole_rates.nd rfl (.inr rfl) pe_int)
      (pss_cons (ps_for PassesOwn.never rfl (pi_list (pv 1)) (pg_name (i := 3) sc_whole_rates.nd rfl (.inl rfl))
        (pss_one (ps_set (i := 2) sc_whole_rates.nd rfl (.inr rfl) (pe_call GM hr (by rfl) T.g_multiple kM bM .nil pass0 (pa_cons (pv 2) (pa_cons (pe_ix ix_tup (pe_dget hu (pv 0) (pv 3) (fun _ _ => rfl)) pe_int (fun _ _ => rfl)) pa_nil))))))
      (pss_cons (ps_setLc (i := 4) (own := [("work", 3), ("number", 6)]) (g := gName 3) (tt := tYes) (te := tOp (rI CMulW fun i j => .int (i * j)) (tOp (rIxT K) (tDGet (tVar 0) (tVar 3)) (tC (.int 0))) (tOp (rI CDivW fun i j => .int (i / j)) (tVar 2) (tOp (rIxT K) (tDGet (tVar 0) (tVar 3)) (tC (.int 1))))) rfl sc_whole_rates.nd rfl rfl (sw_true rfl rfl rfl rfl) (pi_list (pv 1)) (blkOk_by (own := [("work", 3), ("number", 6)]) (N := ["ratios", "piece", "common", "work", "numbers", "both", "number"]) (sc := defScope s_whole_rates) (by decide +kernel)) (fun _ _ _ _ _ => pg_name (i := 3) sc_whole_rates.nd rfl (Or.inl rfl)) (fun _ _ _ _ _ => pts_nil)
          (fun _ _ _ _ _ => pe_op op_mulW (pe_ix ix_tup (pe_dget hu (pv 0) (pv 3) (fun _ _ => rfl)) pe_int (fun _ _ => rfl)) (pe_op op_fdivW (pv 2) (pe_ix ix_tup (pe_dget hu (pv 0) (pv 3) (fun _ _ => rfl)) pe_int (fun _ _ => rfl)))))
      (pss_cons (ps_set (i := 5) sc_whole_rates.nd rfl (.inr rfl) pe_int)
      (pss_cons (ps_for PassesOwn.never rfl (pi_list (pv 4)) (pg_name (i := 6) sc_whole_rates.nd rfl (.inl rfl))
        (pss_one (ps_set (i := 5) sc_whole_rates.nd rfl (.inr rfl) (pe_call GD hr1 (by rfl) T.g_divisor kD bD .nil pass0 (pa_cons (pv 5) (pa_cons (pv 6) pa_nil))))))
      (pss_one (ps_ret (pe_lc (own := [("work", 3), ("number", 6)]) (g := gName 6) (tt := tYes) (te := tOp (rI CDivW fun i j => .int (i / j)) (tVar 6) (tVar 5)) rfl sc_whole_rates.nd (pi_list (pv 4)) (blkOk_by (own := [("work", 3), ("number", 6)]) (N := ["ratios", "piece", "common", "work", "numbers", "both", "number"]) (sc := defScope s_whole_rates) (by decide +kernel)) (fun _ _ _ _ _ => pg_name (i := 6) sc_whole_rates.nd rfl (Or.inl rfl)) (fun _ _ _ _ _ => pts_nil)
          (fun _ _ _ _ _ => pe_op op_fdivW (pv 6) (pv 5))))))))), ?_⟩
    let N : Nat → Nat → Nat := fun c x => (red (nth r x) rf).1 * (c / (red (nth r x) rf).2)
    refine ⟨_, rfl, l, rfl, ⟨_, SqL.of hl⟩, for_list (K := K) (a := l) (xs := nVs L) (fun i σ' H' => ∃ (c : Nat) (v3 : Option V), σ' = [some (.ref d), some (.ref l), some (nV c), v3, none, none, none] ∧ H' = H ∧ 0 < c ∧ c ∣ rf ∧ ∀ x, x ∈ L.take i → (red (nth r x) rf).2 ∣ c)
      ⟨1, none, rfl, rfl, Nat.one_pos, Nat.one_dvd _, fun x hx => by simp at hx⟩ (fun i σ' H' _ ⟨_, _, _, e, _⟩ => by rw [e]; exact SqL.of hl) ?_ ?_⟩
    · rintro i y σ' H' hi ⟨c, v3, rfl, rfl, hc, hcd, hdv⟩
      obtain ⟨x, hx, rfl⟩ := of_nVs hi
      obtain ⟨hxF, ht, h0, h6⟩ := hL x (List.mem_of_getElem? hx)
      have hcl : c ≤ rf := Nat.le_of_dvd hf hcd
      have hp := red_pos h0 hf
      have hle := red_le (a := nth r x) (b := rf)
      refine ⟨_, rfl, _, rfl, _, rfl, d, _, rfl, by rw [← dF_in (v := fun x => V.ref (ra x)) hxF]; exact DGet.k (k := kN x) hd, ra x, _, 1, _, rfl, rfl, SqT.of ht, rfl, c, (red (nth r x) rf).2, rfl, hc, by omega, by omega, Nat.lcm c (red (nth r x) rf).2, _, rfl, rfl, Nat.lcm_pos hc hp.2, Nat.lcm_dvd hcd den_dvd, fun z hz => ?_⟩
      rw [List.take_add_one, hx] at hz
      rcases List.mem_append.mp hz with q1 | q1
      · exact Nat.dvd_trans (hdv z q1) (Nat.dvd_lcm_left _ _)
      · have e : z = x := by simpa using q1
        rw [e]
        exact Nat.dvd_lcm_right _ _
    · rintro σ' H' ⟨c, v3, rfl, rfl, hc, hcd, hdv⟩
      have hcl : c ≤ rf := Nat.le_of_dvd hf hcd
      have hdv2 : ∀ x, x ∈ L → (red (nth r x) rf).2 ∣ c := fun x hx => hdv x (by rw [nVs_len, List.take_length]; exact hx)
      have hN : ∀ x, x ∈ L → N c x * rf = nth r x * c := fun x hx => num_of (hdv2 x hx) hf
      have hNs : ∀ x, x ∈ L → N c x < 1000 := fun x hx => by
        obtain ⟨_, _, h0, h6⟩ := hL x hx
        have hle := red_le (a := nth r x) (b := rf)
        have h1 : c / (red (nth r x) rf).2 ≤ c := Nat.div_le_self _ _
        have h2 : N c x ≤ 6 * 6 := Nat.mul_le_mul (by omega) (by omega)
        omega
      refine Evl.q_asgL (el_mapN (L := L) (f := N c) (Evl.ev_var rfl) (SqL.of hl) (by omega) (fun _ => by rfl) (fun i x H1 e hx => ?_)) (fun p H1 hp e1 ep => ?_)
      · obtain ⟨hxF, ht, h0, h6⟩ := hL x (List.mem_of_getElem? hx)
        have hp := red_pos h0 hf
        have hle := red_le (a := nth r x) (b := rf)
        have hcl2 : c / (red (nth r x) rf).2 ≤ c := Nat.div_le_self _ _
        refine Evl.ev_is (Evl.ev_op (ev_ixT (j := 0) (ev_dget (v := fun x => .ref (ra x)) (Evl.ev_var rfl) (Evl.ev_var rfl) (e _ _ hd) hxF) (e _ _ ht) rfl) (Evl.ev_op (Evl.ev_var rfl) (ev_ixT (j := 1) (ev_dget (v := fun x => .ref (ra x)) (Evl.ev_var rfl) (Evl.ev_var rfl) (e _ _ hd) hxF) (e _ _ ht) rfl) (Evl.rv_I (i := (c : Int)) (j := ((red (nth r x) rf).2 : Int)) (div_w (n := 10) hp.2 (by show _ < 1024; omega) (by decide) (by decide)))) (Evl.rv_I (i := ((red (nth r x) rf).1 : Int)) (j := ((c : Int) / ((red (nth r x) rf).2 : Int))) (by rw [nat_ediv]; exact mul_w (n := 10) (m := 10) (by show _ < 1024; omega) (by show _ < 1024; omega) (by decide) (by decide) (by decide)))) ?_
        show V.int _ = nV _
        rw [nat_ediv, ← Int.natCast_mul]
      · have hgc := prim_rates (rs := L.map (nth r)) (ns := L.map (N c)) (rf := rf) (c := c) (by rw [List.map_map, List.map_map]; exact List.map_congr_left fun x hx => hN x hx) hg hf
        have hG0 : 0 < gcdL (L.map (N c)) := Nat.pos_of_ne_zero fun z => by rw [z, Nat.zero_mul] at hgc; omega
        refine ⟨_, rfl, p, rfl, ⟨_, SqL.of ep⟩, for_list (K := K) (a := p) (xs := nVs (L.map (N c))) (fun i σ' H2 => ∃ (v6 : Option V), σ' = [some (.ref d), some (.ref l), some (nV c), v3, some (.ref p), some (nV (((L.map (N c)).take i).foldl Nat.gcd 0)), v6] ∧ H2 = H1)
          ⟨none, rfl, rfl⟩ (fun i σ' H2 _ ⟨_, _, e⟩ => by rw [e]; exact SqL.of ep) ?_ ?_⟩
        · rintro i y σ' H2 hi ⟨v6, rfl, rfl⟩
          obtain ⟨x, hx, rfl⟩ := of_nVs hi
          refine ⟨_, rfl, _, rfl, _, x, rfl, some (nV x), ?_, rfl⟩
          rw [foldl_take _ _ hx]
          rfl
        · rintro σ' H2 ⟨v6, rfl, rfl⟩
          rw [nVs_len, List.take_length]
          refine Evl.s_retL (el_mapN (L := L.map (N c)) (f := fun x => x / gcdL (L.map (N c))) (Evl.ev_var rfl) (SqL.of ep) (by rw [List.length_map]; omega) (fun _ => by rfl) (fun i x H3 e hx => ?_)) (fun p2 H3 hp2 e3 ep3 => ?_)
          · have hgl : gcdL (L.map (N c)) ≤ c := Nat.le_of_dvd hc ⟨rf, hgc.symm⟩
            refine Evl.ev_is (Evl.ev_op (Evl.ev_var rfl) (Evl.ev_var rfl) (Evl.rv_I (i := (x : Int)) (j := (gcdL (L.map (N c)) : Int)) (div_w (n := 10) hG0 (by show _ < 1024; omega) (by decide) (by decide)))) ?_
            rw [nat_ediv]
          · have e : (L.map (N c)).map (fun x => x / gcdL (L.map (N c))) = L.map (nth r) := by
              rw [List.map_map]
              exact List.map_congr_left fun x hx => rate_of (hN x hx) hgc hf hG0
            rw [e] at ep3
            exact q p2 H3 (Evl.fresh_back e1 hp2) (.of_ex (e1.trans e3)) ep3
end
end RH
/-! rates_of. -/
namespace RH
open PySem PySem.Spec PyProof.Rows L2
/-- code that is not reached -/
theorem pss_no {X : Cx} {st : List Stmt} : PSs X st (fun _ _ _ => False) := ⟨fun _ _ _ _ _ _ h => h.elim⟩
theorem nx_go {D : Ends} {σ : L2.St} {H : Hp} (h : D.nx σ H) : tNext D σ H := h
theorem ixN_nat {n j : Nat} (h : j < n) : ixN n (j : Int) = some j := by
  unfold ixN
  rw [if_pos (by omega), if_pos (by omega)]
  rfl
section
variable {P : Program} {w : World} {K : PySem.W.Frag} {mg : Str → Option Value} {base : Heap}
def spRates (K : PySem.W.Frag) : Sp := fun vs H Q _ => ∃ (h l1 l2 : Addr) (names : List Str) (bs : List Belt) (r : List Nat), vs = [.ref h] ∧ HallAt K H h l1 l2 names bs ∧ Rts names.length bs r ∧ names.length ≤ 30 ∧
  ∀ (p l : Addr) (H' : Hp), H p = none → H l = none → p ≠ l → Fr [] H H' → H' p = some (.tup [.ref l, .non]) → H' l = some (.lst (nVs r)) → Q (.ref p) H'
theorem sc_rates_of : FnScope ["hall", "spread", "pieces", "piece", "odd", "rates", "name", "work", "rate"] ["hall"] (defScope s_rates_of) := ⟨rfl, rfl, rfl, by decide +kernel, rfl, by decide +kernel, by decide +kernel⟩
/-- of the first i pieces -/
def Upto (Ls : List (List Nat)) (i x : Nat) : Prop := ∃ (j : Nat) (L : List Nat), j < i ∧ Ls[j]? = some L ∧ x ∈ L
theorem upto_succ {Ls : List (List Nat)} {i x : Nat} {L : List Nat} (h : Ls[i]? = some L) : Upto Ls (i + 1) x ↔ Upto Ls i x ∨ x ∈ L := by
  constructor
  · rintro ⟨j, M, hj, e, hx⟩
    rcases Nat.lt_succ_iff_lt_or_eq.mp hj with z | z
    · exact .inl ⟨j, M, z, e, hx⟩
    · rw [z, h] at e
      exact .inr (Option.some.inj e ▸ hx)
  · rintro (⟨j, M, hj, e, hx⟩ | hx)
    · exact ⟨j, M, by omega, e, hx⟩
    · exact ⟨i, L, by omega, h, hx⟩
theorem not_upto {bs : List Belt} {n k i x : Nat} {Ls : List (List Nat)} {L : List Nat} (P : Pcs bs n k Ls) (h : Ls[i]? = some L) (hx : x ∈ L) : ¬ Upto Ls i x := fun ⟨j, M, hj, e, hM⟩ => P.dis j i M L e h hj x hM hx
structure SpreadAll (K : PySem.W.Frag) (H5 H' : Hp) (sp bl d1 d2 : Addr) (n : Nat) (r : List Nat) (Ls : List (List Nat)) (i : Nat) (F : List Nat) (ra wa : Nat → Addr) (rt : Nat → Nat × Nat) : Prop where
  fr : Fr [d1, d2] H5 H'
  sp : SpAt K H' sp bl d1 d2 F ra wa rt
  nd : F.Nodup
  lt : ∀ x, x ∈ F → x < n
  up : ∀ x, x ∈ F ↔ Upto Ls i x
  rt : ∀ (j : Nat) (L : List Nat), j < i → Ls[j]? = some L → ∀ x, x ∈ L → rt x = red (nth r x) (nth r (nth L 0))
theorem Pcs.fst {bs : List Belt} {n k : Nat} {Ls : List (List Nat)} {L : List Nat} (P : Pcs bs n k Ls) (h : L ∈ Ls) : nth L 0 ∈ L := by
  obtain ⟨f, hf, _⟩ := P.cn L h
  exact nth_mem (List.length_pos_of_mem hf)
theorem closed_upto {bs : List Belt} {n k i : Nat} {Ls : List (List Nat)} {F : List Nat} (P : Pcs bs n k Ls) (h : ∀ x, x ∈ F ↔ Upto Ls i x) : ClosedF bs F := fun e he => by
  rw [h, h]
  constructor
  · rintro ⟨j, L, hj, eL, hx⟩
    exact ⟨j, L, hj, eL, (P.cn' (List.mem_of_getElem? eL) hx e.t).mpr (.one ⟨e, he, .inl ⟨rfl, rfl⟩⟩)⟩
  · rintro ⟨j, L, hj, eL, hx⟩
    exact ⟨j, L, hj, eL, (P.cn' (List.mem_of_getElem? eL) hx e.g).mpr (.one ⟨e, he, .inr ⟨rfl, rfl⟩⟩)⟩
theorem ok_rates_of (T : Tx K mg) : Okf P w K mg base 6 (He.ga K "rates_of") ["hall"] (spRates K) := by
  obtain ⟨fN, GN, kN', bN⟩ := ok_Hall_names (P := P) (w := w) (base := base) T
  obtain ⟨fB, GB, kB, bB⟩ := ok_Hall_belts (P := P) (w := w) (base := base) T
  obtain ⟨fP, GP, kP, bP⟩ := ok_pieces_of (P := P) (w := w) (base := base) T
  obtain ⟨fI, GI, kI, bI⟩ := ok_Spread_init (P := P) (w := w) (base := base) T
  obtain ⟨fW, GW, kW, bW⟩ := ok_Spread_walk_from (P := P) (w := w) (base := base) T
  obtain ⟨fO, GO, kO, bO⟩ := ok_Spread_odd_belt (P := P) (w := w) (base := base) T
  obtain ⟨fR, GR, kR, bR⟩ := ok_whole_rates (P := P) (w := w) (base := base) T
  refine okf_of T.df_rates_of sc_rates_of (fun _ _ _ _ _ _ us hl => match us, hl with | [_], _ => rfl) (fun vs H Q E h => ?_) (fun cdv A outer s H vs Q E hr h => ?_)
  · obtain ⟨h, l1, l2, names, bs, r, rfl, _⟩ := h
    rfl
  · obtain ⟨h, l1, l2, names, bs, r, rfl, A0, Rs, hn, q⟩ := h
    obtain ⟨dx, eh⟩ := A0.ob
    have hu := hu_of hr
    have hr1 : Room 1 _ := hr.mono (by decide)
    have hr2 : Room 2 _ := hr.mono (by decide)
    have hr3 : Room 3 _ := hr.mono (by decide)
    have hr4 : Room 4 _ := hr.mono (by decide)
    have hw : Within names.length bs := fun e he => ⟨(Rs.bel e he).1, (Rs.bel e he).2.1⟩
    have nN : (hF l1 l2).lookup ("names" : Str) = none := hF_no _ _ (by decide +kernel) (by decide +kernel)
    have nB : (hF l1 l2).lookup ("belts" : Str) = none := hF_no _ _ (by decide +kernel) (by decide +kernel)
    refine ⟨_, pss_cons (ps_set (i := 1) sc_rates_of.nd rfl (.inl rfl) (pe_make T.mk_Spread GI hr2 (by rfl) T.g_Spread bI .nil pass0 (pa_cons (pe_meth0 (pv 0) T.cl_Hall T.m_Hall_belts GB hr1 bB .nil pass0) pa_nil)))
      (pss_cons (ps_set (i := 2) sc_rates_of.nd rfl (.inl rfl) (pe_call GP hr2 (by rfl) T.g_pieces_of kP bP .nil pass0 (pa_cons (pv 0) pa_nil)))
      (pss_cons (ps_for PassesOwn.never rfl (pi_list (pv 2)) (pg_name (i := 3) sc_rates_of.nd rfl (.inl rfl))
        (pss_one (ps_expr (pe_meth (pv 1) T.cl_Spread T.m_Spread_walk_from GW hr bW .nil pass0 (pa_cons (pe_ix ix_list (pv 3) pe_int (fun _ _ => rfl)) pa_nil)))))
      (pss_cons (ps_set (i := 4) sc_rates_of.nd rfl (.inl rfl) (pe_meth0 (pv 1) T.cl_Spread T.m_Spread_odd_belt GO hr4 bO .nil pass0))
      (pss_cons (ps_if (pt_cmpR op_notN (pv 4) pe_non (nomark _)) pss_no pss_nil)
      (pss_cons (ps_setLc (i := 5) (own := [("name", 6)]) (g := gName 6) (tt := tYes) (te := tC (.int 1)) rfl sc_rates_of.nd rfl rfl (sw_true rfl rfl rfl rfl) (pi_list (pe_meth0 (pv 0) T.cl_Hall T.m_Hall_names GN hr1 bN .nil pass0)) (blkOk_by (own := [("name", 6)]) (N := ["hall", "spread", "pieces", "piece", "odd", "rates", "name", "work", "rate"]) (sc := defScope s_rates_of) (by decide +kernel)) (fun _ _ _ _ _ => pg_name (i := 6) sc_rates_of.nd rfl (Or.inl rfl)) (fun _ _ _ _ _ => pts_nil)
        (fun _ _ _ _ _ => pe_int))
      (pss_cons (ps_for PassesOwn.never rfl (pi_list (pv 2)) (pg_name (i := 3) sc_rates_of.nd rfl (.inl rfl))
        (pss_one (ps_for PassesOwn.never rfl (pi_zip (by rfl) T.b_zip (pa_cons (pv 3) (pa_cons (pe_call GR hr3 (by rfl) T.g_whole_rates kR bR .nil pass0 (pa_cons (pe_fld (pv 1) rfl) (pa_cons (pv 3) pa_nil))) pa_nil)))
          (pg_tup rfl (pgs_cons (pg_name (i := 7) sc_rates_of.nd rfl (.inl rfl)) (pgs_cons (pg_name (i := 8) sc_rates_of.nd rfl (.inl rfl)) pgs_nil)))
          (pss_one (ps_asg (pv 8) (pg_sub (pv 5) (pv 7) set_list))))))
      (pss_one (ps_ret (pe_tup (pa_cons (pv 5) (pa_cons pe_non pa_nil))))))))))), ?_⟩
    refine ⟨_, rfl, h, dx, _, rfl, eh, nB, h, l1, l2, names, bs, rfl, A0, fun bl H1 hbl f1 hb1 => fun sp dxs hsp hdxs hne => ?_⟩
    have g1 : Fr [] H1 (upd (upd H1 dxs (.own sp)) sp (.ins (He.ga K "Spread") dxs [])) := (Fr.n0 hdxs).new (by rw [upd_ne hne.symm]; exact hsp)
    have esp : (upd (upd H1 dxs (.own sp)) sp (.ins (He.ga K "Spread") dxs [])) sp = some (.ins (He.ga K "Spread") dxs []) := upd_same
    generalize upd (upd H1 dxs (.own sp)) sp (.ins (He.ga K "Spread") dxs []) = H2 at g1 esp ⊢
    refine ⟨sp, dxs, bl, rfl, esp, fun H3 d1 d2 hd1 hd2 A3 f3 => ⟨rfl, ?_⟩⟩
    have hsp0 : H sp = none := f1.free hsp
    have F2 := f1.trans g1
    have F3 : Fr [] H H3 := (F2.nil.trans f3).shrink fun b hb => .inr (by rw [List.mem_singleton.mp hb]; exact hsp0)
    have hd10 := F2.free hd1
    have hd20 := F2.free hd2
    have hbsp : bl ≠ sp := by
      obtain ⟨as, e, _⟩ := hb1
      exact ne_of_none e hsp
    have hb3 : Bls H3 bl bs := (hb1.kept g1 (by simp)).kept f3 (by simpa using hbsp)
    refine ⟨_, rfl, h, l1, l2, names, bs, rfl, A0.keep F3, hw, hn, fun Ls pl H5 ps hPc hLl hpl f5 epl hLs => ?_⟩
    have A5 := A3.keep f5
    have F5 := F3.trans f5
    have hb5 : Bls H5 bl bs := hb3.kept f5 (by simp)
    have hpl0 := F3.free hpl
    -- the pieces are walked
    have nk : ∀ {a : Addr} {xs : List V}, H5 a = some (.lst xs) → a ∉ [d1, d2] := fun {a xs} e => by
      have n1 : a ≠ d1 := ne_of e A5.r (by intro z; cases z)
      have n2 : a ≠ d2 := ne_of e A5.y (by intro z; cases z)
      simp [n1, n2]
    have npl := nk epl
    have nps : ∀ p, p ∈ ps → p ∉ [d1, d2] := fun p hp => by
      obtain ⟨i, hi⟩ := List.getElem?_of_mem hp
      obtain ⟨L, _, e⟩ := hLs.at_ hi
      exact nk e
    have nbl : bl ∉ [d1, d2] := by
      obtain ⟨as, e, _⟩ := hb5
      exact nk e
    refine ⟨_, rfl, pl, rfl, ⟨_, SqL.of epl⟩, for_list (K := K) (a := pl) (xs := rV ps) (fun i σ' H' => ∃ (F : List Nat) (ra wa : Nat → Addr) (rt : Nat → Nat × Nat) (v3 : Option V), σ' = [some (.ref h), some (.ref sp), some (.ref pl), v3, none, none, none, none, none] ∧ SpreadAll K H5 H' sp bl d1 d2 names.length r Ls i F ra wa rt)
      ⟨[], _, _, _, none, rfl, ⟨Fr.refl _ _, A5, List.nodup_nil, fun x hx => by simp at hx, fun x => ⟨fun hx => by simp at hx, fun ⟨j, _, hj, _⟩ => absurd hj (Nat.not_lt_zero _)⟩, fun j _ hj => absurd hj (Nat.not_lt_zero _)⟩⟩ (fun i σ' H' _ ⟨_, _, _, _, _, _, W⟩ => SqL.of (W.fr.kp _ _ epl npl)) ?_ ?_⟩
    · rintro i y σ' H6 hi ⟨F, ra, wa, rt, v3, rfl, W⟩
      obtain ⟨p, hp, rfl⟩ := of_rV hi
      obtain ⟨L, hL, ep⟩ := (hLs.kept W.fr nps).at_ hp
      have hLm := List.mem_of_getElem? hL
      have hf := hPc.fst hLm
      have hL0 : 0 < L.length := List.length_pos_of_mem hf
      obtain ⟨dx6, ep6⟩ := W.sp.ob
      have nW : (sF bl d1 d2).lookup ("walk_from" : Str) = none := sF_no _ _ _ (by decide +kernel) (by decide +kernel) (by decide +kernel)
      have hfn := hPc.lt L hLm _ hf
      refine ⟨_, rfl, sp, dx6, _, rfl, ep6, nW, _, rfl, p, _, 0, _, rfl, rfl, SqL.of ep, atI_nat (j := 0) (nVs_nth hL0), sp, bl, d1, d2, F, ra, wa, rt, nth L 0, names.length, bs, r, rfl, W.sp, hb5.kept W.fr nbl, Rs.toBal, hn, hfn, fun z => not_upto hPc hL hf ((W.up _).mp z), W.nd, W.lt, closed_upto hPc W.up, ?_⟩
      intro H7 F' ra' wa' rt' A7 hb7 hnd hlt hiff hold hnew f7
      have hcn := hPc.cn' hLm hf
      refine ⟨F', ra', wa', rt', _, rfl, ⟨W.fr.trans f7, A7, hnd, hlt, fun x => by rw [hiff, W.up, upto_succ hL, hcn], fun j M hj hM x hx => ?_⟩⟩
      rcases Nat.lt_succ_iff_lt_or_eq.mp hj with z | z
      · rw [hold x ((W.up x).mpr ⟨j, M, z, hM, hx⟩)]
        exact W.rt j M z hM x hx
      · subst z
        have eM : L = M := Option.some.inj (hL.symm.trans hM)
        subst eM
        exact hnew x ((hcn x).mp hx)
    · rintro σ' H6 ⟨F, ra, wa, rt, v3, rfl, W⟩
      have hlen : (rV ps).length = Ls.length := by rw [rV_len, hLs.1]
      have hup : ∀ x, x < names.length → ∃ (j : Nat) (L : List Nat), Ls[j]? = some L ∧ x ∈ L ∧ x ∈ F ∧ rt x = red (nth r x) (nth r (nth L 0)) := fun x hx => by
        obtain ⟨L, hL, hxL⟩ := hPc.cov x hx
        obtain ⟨j, hj⟩ := List.getElem?_of_mem hL
        have hjl : j < (rV ps).length := by rw [hlen]; exact (List.getElem?_eq_some_iff.mp hj).1
        exact ⟨j, L, hj, hxL, (W.up x).mpr ⟨j, L, hjl, hj, hxL⟩, W.rt j L hjl hj x hxL⟩
      obtain ⟨dx6, ep6⟩ := W.sp.ob
      have nO : (sF bl d1 d2).lookup ("odd_belt" : Str) = none := sF_no _ _ _ (by decide +kernel) (by decide +kernel) (by decide +kernel)
      refine ⟨_, rfl, sp, dx6, _, rfl, ep6, nO, sp, bl, d1, d2, F, ra, wa, rt, bs, rfl, W.sp, hb5.kept W.fr nbl, fun e he => ?_, fun H7 f7 => ?_⟩
      · obtain ⟨hg, ht, hgv, htk, hgv2, htk2, _⟩ := Rs.bel e he
        obtain ⟨j, L, hj, hgL, hgF, hgr⟩ := hup e.g hg
        have htL : e.t ∈ L := (hPc.cn' (List.mem_of_getElem? hj) hgL e.t).mpr (.one ⟨e, he, .inl ⟨rfl, rfl⟩⟩)
        have hLm := List.mem_of_getElem? hj
        have hfn := hPc.lt L hLm _ (hPc.fst hLm)
        have hjl : j < (rV ps).length := by rw [hlen]; exact (List.getElem?_eq_some_iff.mp hj).1
        refine ⟨hgF, (W.up _).mpr ⟨j, L, hjl, hj, htL⟩, by rw [hgr]; exact okR_red Rs.toBal hg hfn, hgv, htk, hgv2, htk2, ?_⟩
        rw [hgr, W.rt j L hjl hj e.t htL]
        exact red_step (Rs.pos _ hg) (Rs.pos _ hfn) hgv htk (Rs.bal e he)
      · refine ⟨_, rfl, rfl, _, rfl, ?_⟩
        show if decide (¬ (V.non = V.non)) = true then _ else _
        rw [if_neg (by simp)]
        have A7 := W.sp.keep f7
        have F7 : Fr [d1, d2] H5 H7 := W.fr.trans f7.nil
        have G7 : Fr [] H H7 := (F5.nil.trans F7).shrink fun b hb => by
          rcases List.mem_cons.mp hb with z | z
          · exact .inr (by rw [z]; exact hd10)
          · exact .inr (by rw [List.mem_singleton.mp z]; exact hd20)
        have B7 := A0.keep G7
        refine nx_go ?_
        dsimp only
        refine Evl.q_asgL (el_mapX (xs := names.map V.str) (ys := nVs (List.replicate names.length 1)) (fun H1 e Q q => ?_) (by rw [List.length_map]; omega) (by rw [nVs_len, List.length_map, List.length_replicate]) (fun _ => by rfl) (fun i x y H1 e hx hy => ?_)) (fun rl H9 hrl e9 erl => ?_)
        · have B8 := B7.keep (.of_ex e)
          obtain ⟨dx7, eh7⟩ := B8.ob
          exact ⟨_, rfl, h, dx7, _, rfl, eh7, nN, h, l1, l2, names, bs, rfl, B8, fun ln H8 hln f8 en => q ln H8 hln f8.ex en⟩
        · obtain ⟨z, hz, rfl⟩ := of_nVs hy
          rw [List.getElem?_replicate] at hz
          have hz1 : z = 1 := by
            by_cases q1 : i < names.length
            · rw [if_pos q1] at hz
              exact (Option.some.inj hz).symm
            · rw [if_neg q1] at hz
              cases hz
          rw [hz1]
          exact Evl.ev_c
        · have f9 : Fr [] H7 H9 := .of_ex e9
          have G9 := G7.trans f9
          have hrl0 := G7.free hrl
          have A9 := A7.keep f9
          have F9 : Fr [d1, d2] H5 H9 := F7.trans f9.nil
          have epl9 := F9.kp _ _ epl npl
          have hLs9 := hLs.kept F9 nps
          have hnr : ∀ {H' : Hp} {a : Addr} {u : HO}, H7 a = some u → a ≠ rl := fun {H' a u} e => ne_of_none e hrl
          have G8' : ∀ {a : Addr} {u : HO}, H5 a = some u → a ∉ [d1, d2] → a ≠ rl := fun {a u} e hna => ne_of_none (F7.kp _ _ e hna) hrl
          refine ⟨_, rfl, pl, rfl, ⟨_, SqL.of epl9⟩, for_list (K := K) (a := pl) (xs := rV ps) (fun i σ' H' => ∃ (xs : List Nat) (v3 v6 v7 v8 : Option V), σ' = [some (.ref h), some (.ref sp), some (.ref pl), v3, some .non, some (.ref rl), v6, v7, v8] ∧ Fr [rl] H9 H' ∧ H' rl = some (.lst (nVs xs)) ∧ xs.length = names.length ∧ ∀ x, Upto Ls i x → nth xs x = nth r x)
            ⟨_, _, _, none, none, rfl, Fr.refl _ _, erl, List.length_replicate, fun x ⟨j, _, hj, _⟩ => absurd hj (Nat.not_lt_zero _)⟩ (fun i σ' H' _ ⟨_, _, _, _, _, _, f, _⟩ => SqL.of (f.kp _ _ epl9 (by simpa using G8' epl npl))) ?_ ?_⟩
          · rintro i y σ' H10 hi ⟨xs, v3, v6, v7, v8, rfl, f10, e10, hxl, hgood⟩
            obtain ⟨p, hp, rfl⟩ := of_rV hi
            obtain ⟨L, hL, ep5⟩ := hLs.at_ hp
            have hLm := List.mem_of_getElem? hL
            have hf := hPc.fst hLm
            have hfn := hPc.lt L hLm _ hf
            have npr : p ≠ rl := G8' ep5 (nps p (List.mem_of_getElem? hp))
            have ep : H10 p = some (.lst (nVs L)) := f10.kp _ _ (F9.kp _ _ ep5 (nps p (List.mem_of_getElem? hp))) (by simpa using npr)
            obtain ⟨dx7, es7⟩ := A7.ob
            have es10 : H10 sp = some (.ins (He.ga K "Spread") dx7 (sF bl d1 d2)) := f10.kp _ _ (f9.at_ es7) (by simpa using hnr (H' := H7) es7)
            have er10 : H10 d1 = some (.dK (dF F fun x => .ref (ra x))) := f10.kp _ _ (f9.at_ A7.r) (by simpa using hnr (H' := H7) A7.r)
            have hjl := (List.getElem?_eq_some_iff.mp hi).1
            have hg : gcdL (L.map (nth r)) = 1 := Rs.prim _ hfn _ fun v hv hc => gcdL_dvd (List.mem_map_of_mem ((hPc.cn' hLm hf v).mpr hc))
            refine ⟨_, rfl, _, rfl, sp, _, dx7, _, _, rfl, es10, T.cl_Spread, T.n_Spread_ratios, sF_ratios _ _ _, _, rfl, d1, p, F, L, ra, r, nth r (nth L 0), rfl, er10, ep, fun x hx => ?_, Rs.pos _ hfn, Rs.le6 _ hfn, hg, Nat.le_trans (nodup_le (hPc.nd L hLm) (hPc.lt L hLm)) hn, fun wl H11 hwl f11 ewl => ?_⟩
            · have hxn := hPc.lt L hLm x hx
              have hxF : x ∈ F := (W.up x).mpr ⟨i, L, hjl, hL, hx⟩
              refine ⟨hxF, ?_, Rs.pos x hxn, Rs.le6 x hxn⟩
              rw [← W.rt i L hjl hL x hx]
              exact f10.tp _ _ (A9.tp x hxF)
            · have nwr : wl ≠ rl := (ne_of_none e10 hwl).symm
              have ep11 := f11.at_ ep
              refine ⟨p, wl, _, _, rfl, SqL.of ep11, SqL.of ewl, RZ.for_zipL (xs := nVs L) (ys := nVs (L.map (nth r))) (by rw [nVs_len, nVs_len, List.length_map]) (fun k σ' H' => ∃ (xs : List Nat) (v6 v7 v8 : Option V), σ' = [some (.ref h), some (.ref sp), some (.ref pl), some (.ref p), some .non, some (.ref rl), v6, v7, v8] ∧ Fr [rl] H11 H' ∧ H' rl = some (.lst (nVs xs)) ∧ xs.length = names.length ∧ (∀ x, Upto Ls i x ∨ x ∈ L.take k → nth xs x = nth r x))
                ⟨xs, v6, v7, v8, rfl, Fr.refl _ _, f11.at_ e10, hxl, fun x hx => hgood x (hx.elim id fun z => by simp at z)⟩ (fun k σ' H' ⟨_, _, _, _, _, f, _⟩ => ⟨SqL.of (f.kp _ _ ep11 (by simpa using npr)), SqL.of (f.kp _ _ ewl (by simpa using nwr))⟩) ?_ ?_⟩
              · rintro k y1 y2 T0 σ' H12 h1 h2 ⟨ys, v6, v7, v8, rfl, f12, e12, hyl, hgood2⟩ hT0
                obtain ⟨x, hx, rfl⟩ := of_nVs h1
                have hxy := nVs_at (x := nth r x) (show (L.map (nth r))[k]? = some (nth r x) by rw [List.getElem?_map, hx]; rfl)
                rw [hxy] at h2
                rw [← Option.some.inj h2]
                have hxn := hPc.lt L hLm x (List.mem_of_getElem? hx)
                have f13 : Fr [rl] H11 (upd H12 T0 (.tup [nV x, nV (nth r x)])) := f12.new hT0
                have nT : rl ≠ T0 := ne_of_none e12 hT0
                have e13 : (upd H12 T0 (.tup [nV x, nV (nth r x)])) rl = some (.lst (nVs ys)) := by rw [upd_ne nT]; exact e12
                refine ⟨T0, _, rfl, SqT.of upd_same, rfl, _, _, rfl, _, _, rfl, rfl, _, rfl, _, rfl, _, rfl, rl, _, _, x, rfl, rfl, e13, ixN_nat (by rw [nVs_len, hyl]; exact hxn), ?_⟩
                refine ⟨ys.set x (nth r x), _, _, _, rfl, f13.mutL (.inl (by simp)) e13, by rw [upd_same]; unfold nVs; rw [List.map_set], by rw [List.length_set]; exact hyl, fun z hz => ?_⟩
                by_cases ez : x = z
                · rw [← ez]
                  exact nth_set_self (by rw [hyl]; exact hxn)
                · rw [nth_set_ne ez]
                  refine hgood2 z (hz.imp_right fun hz => ?_)
                  rw [List.take_add_one, hx] at hz
                  rcases List.mem_append.mp hz with q1 | q1
                  · exact q1
                  · exact absurd (by simpa using q1 : z = x).symm ez
              · rintro σ' H12 ⟨ys, v6, v7, v8, rfl, f12, e12, hyl, hgood2⟩
                refine ⟨ys, _, _, _, _, rfl, (f10.trans f11.nil).trans f12, e12, hyl, fun x hx => ?_⟩
                rw [nVs_len, List.take_length] at hgood2
                exact hgood2 x ((upto_succ hL).mp hx)
          · rintro σ' H10 ⟨xs, v3, v6, v7, v8, rfl, f10, e10, hxl, hgood⟩
            have exs : xs = r := ext_nth (by rw [hxl, Rs.len]) fun x hx => by
              obtain ⟨j, L, hj, hxL, _⟩ := hup x (by rw [← hxl]; exact hx)
              exact hgood x ⟨j, L, by rw [hlen]; exact (List.getElem?_eq_some_iff.mp hj).1, hj, hxL⟩
            have G10 : Fr [] H H10 := (G9.nil.trans f10).shrink fun b hb => .inr (by rw [List.mem_singleton.mp hb]; exact hrl0)
            refine ⟨_, rfl, small_line (by show 2 ≤ 100000; omega), fun t ht => ?_⟩
            have ntl : t ≠ rl := (ne_of_none e10 ht).symm
            refine q t rl _ (G10.free ht) hrl0 ntl (G10.new ht) upd_same ?_
            rw [upd_ne ntl.symm, e10, exs]
end
end RH
/-! Members of a group, their turns. -/
namespace RH
open PySem PySem.Spec PyProof.Rows L2
theorem g_go {i : Nat} {v : V} {σ : L2.St} {H : Hp} {N : L2.St → Hp → Prop} (h : N (σ.set i (some v)) H) : gName i v σ H N := h
/-! ### lists of numbers -/
theorem inV_nat {x : Nat} {xs : List Nat} : inV (nV x) (nVs xs) = decide (x ∈ xs) := by
  unfold inV nVs
  rw [List.any_map]
  by_cases h : x ∈ xs
  · rw [decide_eq_true h, List.any_eq_true]
    exact ⟨x, h, by simp [Function.comp, eqV]⟩
  · rw [decide_eq_false h, List.any_eq_false]
    intro y hy
    have : y ≠ x := fun e => h (e ▸ hy)
    simp [Function.comp, eqV]
    omega
theorem flat_nVs (xs : List Nat) : (nVs xs).all flatV = true := by
  rw [List.all_eq_true]
  intro v hv
  obtain ⟨x, _, rfl⟩ := List.mem_map.mp hv
  rfl
theorem eqV_nat {a b : Nat} : eqV (nV a) (nV b) = decide (a = b) := by
  by_cases h : a = b
  · subst h; simp [eqV]
  · rw [decide_eq_false h]
    simp [eqV]
    omega
theorem idxOf_ne {x y : Nat} {r : List Nat} (e : ¬ y = x) : (y :: r).idxOf x = r.idxOf x + 1 := by
  have h : (y == x) = false := by simpa using e
  simp [List.idxOf_cons, h]
theorem at_idx {x : Nat} : ∀ {xs : List Nat}, x ∈ xs → xs[xs.idxOf x]? = some x
  | y :: r, h => by
    by_cases e : y = x
    · subst e; simp
    · have hr : x ∈ r := (List.mem_cons.mp h).resolve_left fun z => e z.symm
      rw [idxOf_ne e]
      exact at_idx hr
theorem before_idx {x : Nat} : ∀ {xs : List Nat} {m z : Nat}, m < xs.idxOf x → xs[m]? = some z → z ≠ x
  | y :: r, m, z, h, hz => by
    by_cases e : y = x
    · subst e; simp at h
    · rw [idxOf_ne e] at h
      cases m with
      | zero => exact fun q => e ((Option.some.inj hz).trans q)
      | succ m => exact before_idx (xs := r) (m := m) (z := z) (by omega) (by simpa using hz)
section
open Evl
variable {K : PySem.W.Frag} {σ : L2.St} {H : Hp} {te ta tb tr : TE}
theorem ev_eqNil {a : Addr} {ns : List Nat} (h : Ev ta σ H (.ref a)) (ha : H a = some (.lst (nVs ns))) : Ev (tOp (rEqD K) ta (tLst tNil)) σ H (.bl ns.isEmpty) := fun H1 e Q q =>
  h H1 e _ fun H2 e2 => ⟨Nat.zero_le _, fun p hp => eq_nil_ok (Ex.new hp _ _ (e2 _ _ (e _ _ ha))) upd_same (q _ (e2.trans (Ex.new hp)))⟩
theorem ev_lenX {xs : List V} (h : EvL te σ H xs) : Ev (tCB (rLenS K) (tCons te tNil)) σ H (.int (xs.length : Int)) := fun H1 e Q q =>
  h H1 e _ fun p H2 hp e2 ep => ⟨p, xs, rfl, .inl (SqL.of ep), q H2 e2⟩
theorem el_names {mg : Str → Option Value} (T : Tx K mg) {h l1 l2 : Addr} {names : List Str} {bs : List Belt} (hr : Ev tr σ H (.ref h)) (A : HallAt K H h l1 l2 names bs) : EvL (tMeth (He.ga K "Hall") "names" (spNames K) [] E0 tr tNil) σ H (names.map V.str) := fun H1 e Q q =>
  hr H1 e _ fun H2 e2 => by
    have A2 := A.keep (.of_ex (e.trans e2))
    obtain ⟨dx, eh⟩ := A2.ob
    exact ⟨h, dx, _, rfl, eh, hF_no _ _ (by decide +kernel) (by decide +kernel), h, l1, l2, names, bs, rfl, A2, fun p H3 hp f ep => q p H3 (fresh_back e2 hp) (e2.trans f.ex) ep⟩
/-- x in a list of numbers -/
theorem ev_inN {a : Addr} {x : Nat} {xs : List Nat} (h1 : Ev ta σ H (nV x)) (h2 : Ev tb σ H (.ref a)) (ha : H a = some (.lst (nVs xs))) : Ev (tOp (rIn K false) ta tb) σ H (.bl (decide (x ∈ xs))) := ev_is (ev_op h1 h2 (rv_isL (SqL.of ha) rfl (flat_nVs _))) (by rw [inV_nat])
theorem ev_notInN {a : Addr} {x : Nat} {xs : List Nat} (h1 : Ev ta σ H (nV x)) (h2 : Ev tb σ H (.ref a)) (ha : H a = some (.lst (nVs xs))) : Ev (tOp (rIn K true) ta tb) σ H (.bl (!decide (x ∈ xs))) := ev_is (ev_op h1 h2 (rv_niL (SqL.of ha) rfl (flat_nVs _))) (by rw [inV_nat])
end
theorem sorted_lt : ∀ {xs : List Nat}, xs.Nodup → (xs.map fun n : Nat => (n : Int)).Pairwise (· ≤ ·) → xs.Pairwise (· < ·) := by
  intro xs hn hp
  rw [List.pairwise_map] at hp
  exact (hn.and hp).imp fun ⟨a, b⟩ => by omega
theorem atI_last {ns : List Nat} (h : ns ≠ []) : ∃ x, x ∈ ns ∧ atI (nVs ns) (-1) = some (nV x) := by
  have hl : 0 < ns.length := List.length_pos_iff.mpr h
  refine ⟨nth ns (ns.length - 1), nth_mem (by omega), ?_⟩
  unfold atI ixN
  rw [if_neg (by omega), if_pos (by rw [nVs_len]; omega), nVs_len]
  show (nVs ns)[((-1 : Int) + (ns.length : Int)).toNat]? = _
  rw [show ((-1 : Int) + (ns.length : Int)).toNat = ns.length - 1 by omega]
  exact nVs_nth (by omega)
section
variable {P : Program} {w : World} {K : PySem.W.Frag} {mg : Str → Option Value} {base : Heap}
/-! ### members_of -/
def spMembers (K : PySem.W.Frag) : Sp := fun vs H Q _ => ∃ (h g l1 l2 : Addr) (names : List Str) (bs : List Belt) (L : List Nat), vs = [.ref h, .ref g] ∧ HallAt K H h l1 l2 names bs ∧ H g = some (.lst (nVs L)) ∧ L.Nodup ∧ L ≠ [] ∧ (∀ x, x ∈ L → x < names.length) ∧ names.length ≤ 30 ∧
  ∀ M : List Nat, M.Perm L → M.Pairwise (· < ·) → RL (nVs M) H Q
theorem sc_members_of : FnScope ["hall", "group", "members", "k"] ["hall", "group"] (defScope s_members_of) := ⟨rfl, rfl, rfl, by decide +kernel, rfl, by decide +kernel, by decide +kernel⟩
theorem ok_members_of (T : Tx K mg) : Okf P w K mg base 2 (He.ga K "members_of") ["hall", "group"] (spMembers K) := by
  obtain ⟨fN, GN, kN', bN⟩ := ok_Hall_names (P := P) (w := w) (base := base) T
  refine okf_of T.df_members_of sc_members_of (fun _ _ _ _ _ _ us hl => match us, hl with | [_, _], _ => rfl) (fun vs H Q E h => ?_) (fun cdv A outer s H vs Q E hr h => ?_)
  · obtain ⟨h, g, l1, l2, names, bs, L, rfl, _⟩ := h
    rfl
  · obtain ⟨h, g, l1, l2, names, bs, L, rfl, A0, hg, hnd, hne, hlt, hn, q⟩ := h
    refine ⟨_, pss_cons (ps_set (i := 2) sc_members_of.nd rfl (.inl rfl) (pe_callB cr_sortedI (by rfl) T.b_sorted (by decide +kernel) (pa_cons (pv 1) pa_nil)))
      (pss_cons (ps_if (PW.pt (pw_or (pt_cmpR (op_eqD hr.units) (pv 2) (pe_lst pa_nil) (nomark _)) (pw_or (pt_cmpR op_lt (pe_ix ix_list (pv 2) pe_int (fun _ _ => rfl)) pe_int (nomark _)) (pw_or1 (pt_cmpR op_ge (pe_ix ix_list (pv 2) (pe_un un_neg pe_int) (fun _ _ => rfl)) (pe_callB call_len_seq (by rfl) T.b_len PySem.boot_len (pa_cons (pe_meth0 (pv 0) T.cl_Hall T.m_Hall_names GN hr bN .nil pass0) pa_nil)) (nomark _))))))
        pss_no pss_nil)
      (pss_cons (ps_for PassesOwn.never rfl (pi_range2 (by rfl) T.b_range (pa_cons pe_int (pa_cons (pe_callB call_len_seq (by rfl) T.b_len PySem.boot_len (pa_cons (pv 2) pa_nil)) pa_nil))) (pg_name (i := 3) sc_members_of.nd rfl (.inl rfl))
        (pss_one (ps_if (pt_cmpR op_eq (pe_ix ix_list (pv 2) (pv 3) (fun _ _ => rfl)) (pe_ix ix_list (pv 2) (pe_op op_sub (pv 3) pe_int) (fun _ _ => rfl)) (nomark _)) pss_no pss_nil)))
      (pss_one (ps_ret (pv 2))))), ?_⟩
    have hz : nVs L = (L.map fun n : Nat => (n : Int)).map V.int := nVs_eq L
    refine ⟨_, rfl, g, _, rfl, by rw [← hz]; exact SqL.of hg, fun ys m hp hs hm => ?_⟩
    obtain ⟨M, rfl, hM⟩ := perm_nat hp
    have hMd := hM.nodup_iff.mpr hnd
    have hMs := sorted_lt hMd hs
    have hMne : M ≠ [] := fun e => by
      rw [e] at hM
      exact hne (List.nil_perm.mp hM)
    have hMlt : ∀ x, x ∈ M → x < names.length := fun x hx => hlt x (hM.mem_iff.mp hx)
    rw [← nVs_eq]
    have f1 : Fr [] H (upd H m (.lst (nVs M))) := Fr.n0 hm
    have em : (upd H m (.lst (nVs M))) m = some (.lst (nVs M)) := upd_same
    have A1 := A0.keep f1
    have q1 : ∀ H', Fr [] H H' → H' m = some (.lst (nVs M)) → Q (.ref m) H' := fun H' f e => q M hM hMs m H' hm f e
    generalize upd H m (.lst (nVs M)) = H1 at f1 em A1 ⊢
    have hM0 : 0 < M.length := List.length_pos_iff.mpr hMne
    obtain ⟨z, hzM, ez⟩ := atI_last hMne
    have hMe : M.isEmpty = false := by
      cases M with
      | nil => exact absurd rfl hMne
      | cons a b => rfl
    refine g_go ?_
    dsimp only
    refine Evl.q_when (b := M.isEmpty || (decide ((nth M 0 : Int) < (0 : Int)) || decide (((names.map V.str).length : Int) ≤ (z : Int)))) ?_ (fun hc => ?_) (fun _ H2 e2 => ?_)
    · refine Evl.et_or (Evl.et_test (ev_eqNil (Evl.ev_var rfl) em)) fun _ => Evl.et_or (et_ltI (ev_ixL (j := 0) (Evl.ev_var rfl) Evl.ev_c em (nVs_nth hM0)) Evl.ev_c) fun _ => et_geI ?_ ?_
      · exact Evl.ev_op (Evl.ev_var rfl) (Evl.ev_un (x := .int 1) (z := .int (-1)) Evl.ev_c fun H1 _ _ q => ⟨1, rfl, q H1 (Evl.Ex.refl H1)⟩) (Evl.rv_ixL (SqL.of em) ez)
      · exact ev_lenX (el_names T (Evl.ev_var rfl) A1)
    · rw [hMe, Bool.false_or] at hc
      rcases Bool.or_eq_true_iff.mp hc with c | c
      · have := of_decide_eq_true c
        omega
      · have := of_decide_eq_true c
        have := hMlt z hzM
        rw [List.length_map] at *
        omega
    · have em2 := e2 _ _ em
      have f2 : Fr [] H H2 := f1.trans (.of_ex e2)
      have hMl : M.length ≤ 30 := Nat.le_trans (nodup_le hMd hMlt) hn
      have et : (((nVs M).length : Int) - 1).toNat = M.length - 1 := by rw [nVs_len]; omega
      refine ⟨_, rfl, m, _, rfl, .inl (SqL.of em2), 1, _, rfl, ⟨by omega, by omega, by omega, by rw [nVs_len]; omega⟩, ?_⟩
      rw [et]
      refine for_range (lo := 1) (n := M.length - 1) (fun i σ' H' => ∃ v3 : Option V, σ' = [some (.ref h), some (.ref g), some (.ref m), v3] ∧ Fr [] H2 H') ⟨none, rfl, Fr.refl _ _⟩ ?_ ?_
      · rintro i σ' H3 hi ⟨v3, rfl, f3⟩
        have em3 := f3.at_ em2
        have e1 : V.int (1 + (i : Int)) = nV (i + 1) := congrArg V.int (by omega)
        rw [e1]
        refine g_go ?_
        refine Evl.s_when (b := decide (nth M (i + 1) = nth M i)) (et_eqN (ev_ixL (Evl.ev_var rfl) (Evl.ev_var rfl) em3 (nVs_nth (by omega))) (ev_ixL (Evl.ev_var rfl) (Evl.ev_is (ev_sub (Evl.ev_var rfl) Evl.ev_c) ?_) em3 (nVs_nth (by omega)))) (fun hc => ?_) (fun _ H4 e4 => ⟨_, rfl, f3.trans (.of_ex e4)⟩)
        · show V.int (((i + 1 : Nat) : Int) - 1) = nV i
          exact congrArg V.int (by omega)
        · have hlt2 := List.pairwise_iff_getElem.mp hMs i (i + 1) (by omega) (by omega) (by omega)
          have c1 := nth_of (List.getElem?_eq_getElem (show i < M.length by omega))
          have c2 := nth_of (List.getElem?_eq_getElem (show i + 1 < M.length by omega))
          have c3 := of_decide_eq_true hc
          omega
      · rintro σ' H3 ⟨v3, rfl, f3⟩
        exact ⟨_, rfl, q1 H3 (f2.trans f3) (f3.at_ em2)⟩
/-! ### turns_of -/
theorem iteN {b : Bool} {A B : Prop} (hb : ¬ b = true) (h : B) : if b = true then A else B := by rw [if_neg hb]; exact h
theorem sum_le {b : Nat} : ∀ {r : List Nat}, (∀ x, x ∈ r → x ≤ b) → (r.map fun n : Nat => (n : Int)).sum ≤ (b : Int) * (r.length : Int)
  | [], _ => by simp
  | x :: r, h => by
    have h1 := sum_le (r := r) fun y hy => h y (List.mem_cons_of_mem _ hy)
    have h2 := h x List.mem_cons_self
    rw [List.map_cons, List.sum_cons, List.length_cons]
    have e : (b : Int) * ((r.length + 1 : Nat) : Int) = (b : Int) * (r.length : Int) + b := by
      rw [Int.natCast_add, Int.mul_add]
      simp
    omega
theorem take_mem {M : List Nat} {i x : Nat} (h : M[i]? = some x) : M.take (i + 1) = M.take i ++ [x] := by
  rw [List.take_add_one, h]
  rfl
theorem not_take {M : List Nat} {i x : Nat} (hd : M.Nodup) (h : M[i]? = some x) : x ∉ M.take i := fun hx => by
  obtain ⟨j, hj⟩ := List.getElem?_of_mem hx
  have hjl := (List.getElem?_eq_some_iff.mp hj).1
  rw [List.length_take] at hjl
  rw [List.getElem?_take, if_pos (by omega)] at hj
  obtain ⟨a1, a2⟩ := List.getElem?_eq_some_iff.mp hj
  obtain ⟨b1, b2⟩ := List.getElem?_eq_some_iff.mp h
  have := List.pairwise_iff_getElem.mp hd j i a1 b1 (by omega)
  exact this (a2.trans b2.symm)
def spTurns (K : PySem.W.Frag) : Sp := fun vs H Q _ => ∃ (h m l1 l2 : Addr) (names : List Str) (bs : List Belt) (r M : List Nat), vs = [.ref h, .ref m] ∧ HallAt K H h l1 l2 names bs ∧ Rts names.length bs r ∧ names.length ≤ 30 ∧ H m = some (.lst (nVs M)) ∧ M ≠ [] ∧ M.Nodup ∧ (∀ x, x ∈ M → x < names.length) ∧
  ∀ (p : Addr) (H' : Hp), H p = none → Fr [] H H' → H' p = some (.dK (dF M fun x => nV (nth r x / gcdL (M.map (nth r))))) → Q (.ref p) H'
theorem sc_turns_of : FnScope ["hall", "members", "rates", "common", "work", "turns"] ["hall", "members"] (defScope s_turns_of) := ⟨rfl, rfl, rfl, by decide +kernel, rfl, by decide +kernel, by decide +kernel⟩
theorem ok_turns_of (T : Tx K mg) : Okf P w K mg base 7 (He.ga K "turns_of") ["hall", "members"] (spTurns K) := by
  obtain ⟨fR, GR, kR, bR⟩ := ok_rates_of (P := P) (w := w) (base := base) T
  obtain ⟨fD, GD, kD, bD⟩ := ok_divisor (P := P) (w := w) (base := base) T
  obtain ⟨tw, hwt⟩ := T.i_MOST_TURNS
  refine okf_of T.df_turns_of sc_turns_of (fun _ _ _ _ _ _ us hl => match us, hl with | [_, _], _ => rfl) (fun vs H Q E h => ?_) (fun cdv A outer s H vs Q E hr h => ?_)
  · obtain ⟨h, m, l1, l2, names, bs, r, M, rfl, _⟩ := h
    rfl
  · obtain ⟨h, m, l1, l2, names, bs, r, M, rfl, A0, Rs, hn, hm, hMne, hMd, hMlt, q⟩ := h
    have hu := hu_of hr
    have hr1 : Room 1 _ := hr.mono (by decide)
    refine ⟨_, pss_cons (ps_set (i := 2) sc_turns_of.nd rfl (.inl rfl) (pe_ix ix_tup (pe_call GR hr (by rfl) T.g_rates_of kR bR .nil pass0 (pa_cons (pv 0) pa_nil)) pe_int (fun _ _ => rfl)))
      (pss_cons (ps_if (pt_cmpR op_isN (pv 2) pe_non (nomark _)) pss_no pss_nil)
      (pss_cons (ps_if (pt_cmpR op_gt (pe_callB (cr_sum rfl) (by rfl) T.b_sum (by decide +kernel) (pa_cons (pv 2) pa_nil)) (pe_glob (v := .int 400) (by rfl) hwt ⟨_, rfl⟩) (nomark _)) pss_no pss_nil)
      (pss_cons (ps_set (i := 3) sc_turns_of.nd rfl (.inl rfl) pe_int)
      (pss_cons (ps_for PassesOwn.never rfl (pi_list (pv 1)) (pg_name (i := 4) sc_turns_of.nd rfl (.inl rfl))
        (pss_one (ps_set (i := 3) sc_turns_of.nd rfl (.inl rfl) (pe_call GD hr1 (by rfl) T.g_divisor kD bD .nil pass0 (pa_cons (pv 3) (pa_cons (pe_ix ix_list (pv 2) (pv 4) (fun _ _ => rfl)) pa_nil))))))
      (pss_cons (ps_set (i := 5) sc_turns_of.nd rfl (.inl rfl) pe_dnewK)
      (pss_cons (ps_for PassesOwn.never rfl (pi_list (pv 1)) (pg_name (i := 4) sc_turns_of.nd rfl (.inl rfl))
        (pss_one (ps_dput hu (pv 5) (pv 4) (pe_op op_fdivW (pe_ix ix_list (pv 2) (pv 4) (fun _ _ => rfl)) (pv 3)) rfl)))
      (pss_one (ps_ret (pv 5))))))))), ?_⟩
    refine ⟨_, rfl, h, l1, l2, names, bs, r, rfl, A0, Rs, hn, fun p l H1 hp hl hpl f1 ep el => ?_⟩
    have hm1 := f1.at_ hm
    have hrn : r.length = names.length := Rs.len
    have hr6 : ∀ x, x ∈ r → x ≤ 6 := fun x hx => by
      obtain ⟨i, hi⟩ := List.getElem?_of_mem hx
      have hil := (List.getElem?_eq_some_iff.mp hi).1
      rw [← nth_of hi]
      exact Rs.le6 i (by omega)
    refine ⟨p, _, 0, _, rfl, rfl, SqT.of ep, rfl, _, rfl, rfl, _, rfl, iteN (by simp) ?_⟩
    have hsum := sum_le hr6
    refine ⟨_, rfl, l, r.map fun n : Nat => (n : Int), rfl, by rw [← nVs_eq]; exact SqL.of el, _, _, rfl, rfl, _, rfl, iteN (fun z => ?_) ?_⟩
    · have := of_decide_eq_true z
      rw [hrn] at hsum
      omega
    refine ⟨_, rfl, m, rfl, ⟨_, SqL.of hm1⟩, for_list (K := K) (a := m) (xs := nVs M) (fun i σ' H' => ∃ v4 : Option V, σ' = [some (.ref h), some (.ref m), some (.ref l), some (nV (((M.map (nth r)).take i).foldl Nat.gcd 0)), v4, none] ∧ H' = H1)
      ⟨none, rfl, rfl⟩ (fun i σ' H' _ ⟨_, _, e⟩ => by rw [e]; exact SqL.of hm1) ?_ ?_⟩
    · rintro i y σ' H' hi ⟨v4, rfl, rfl⟩
      obtain ⟨x, hx, rfl⟩ := of_nVs hi
      have hxn := hMlt x (List.mem_of_getElem? hx)
      refine ⟨_, rfl, _, rfl, _, rfl, l, _, x, _, rfl, rfl, SqL.of el, atI_nat (j := x) (nVs_nth (by omega)), _, nth r x, rfl, some (nV x), ?_, rfl⟩
      rw [foldl_take _ _ (show (M.map (nth r))[i]? = some (nth r x) by rw [List.getElem?_map, hx]; rfl)]
      rfl
    · rintro σ' H' ⟨v4, rfl, rfl⟩
      have eg : ((M.map (nth r)).take (nVs M).length).foldl Nat.gcd 0 = gcdL (M.map (nth r)) := by
        rw [List.take_of_length_le (by rw [nVs_len, List.length_map]; omega)]
        rfl
      rw [eg]
      obtain ⟨x0, hx0⟩ := List.exists_mem_of_ne_nil M hMne
      have hgd : gcdL (M.map (nth r)) ∣ nth r x0 := gcdL_dvd (List.mem_map_of_mem hx0)
      have hp0 := Rs.pos x0 (hMlt x0 hx0)
      have hg0 : 0 < gcdL (M.map (nth r)) := gcdL_pos (List.mem_map_of_mem hx0) hp0
      have hg6 : gcdL (M.map (nth r)) ≤ 6 := Nat.le_trans (Nat.le_of_dvd hp0 hgd) (Rs.le6 x0 (hMlt x0 hx0))
      intro d hd
      have f2 : Fr [] H' (upd H' d (.dK [])) := Fr.n0 hd
      have ed : (upd H' d (.dK [])) d = some (.dK []) := upd_same
      have hd0 := f1.free hd
      generalize upd H' d (.dK []) = H2 at f2 ed ⊢
      have hm2 := f2.at_ hm1
      have el2 := f2.at_ el
      have nmd : m ≠ d := ne_of hm2 ed (by intro z; cases z)
      have nld : l ≠ d := ne_of el2 ed (by intro z; cases z)
      refine ⟨_, rfl, m, rfl, ⟨_, SqL.of hm2⟩, for_list (K := K) (a := m) (xs := nVs M) (fun i σ' H' => ∃ v4 : Option V, σ' = [some (.ref h), some (.ref m), some (.ref l), some (nV (gcdL (M.map (nth r)))), v4, some (.ref d)] ∧ Fr [d] H2 H' ∧ H' d = some (.dK (dF (M.take i) fun x => nV (nth r x / gcdL (M.map (nth r))))))
        ⟨_, rfl, Fr.refl _ _, ed⟩ (fun i σ' H' _ ⟨_, _, f, _⟩ => SqL.of (f.kp _ _ hm2 (by simpa using nmd))) ?_ ?_⟩
      · rintro i y σ' H3 hi ⟨v4, rfl, f3, e3⟩
        obtain ⟨x, hx, rfl⟩ := of_nVs hi
        have hxn := hMlt x (List.mem_of_getElem? hx)
        have hnt := not_take hMd hx
        have hMl : M.length ≤ 30 := Nat.le_trans (nodup_le hMd hMlt) hn
        refine ⟨_, rfl, _, rfl, l, _, x, _, rfl, rfl, SqL.of (f3.kp _ _ el2 (by simpa using nld)), atI_nat (j := x) (nVs_nth (by omega)), _, rfl, _, _, rfl, rfl, div_w (n := 10) hg0 (by show _ < 1024; omega) (by decide) (by decide), _, rfl, _, rfl, d, _, rfl, DPut.k (k := kN x) e3 (by rw [dF_len, List.length_take]; exact small_line' (by omega)), ?_⟩
        refine ⟨_, rfl, f3.mutD (.inl (by simp)) e3, ?_⟩
        rw [upd_same, dF_put hnt, take_mem hx]
        refine congrArg (fun q => some (HO.dK q)) (dF_congr fun z _ => ?_)
        by_cases ez : z = x
        · rw [if_pos ez, ez]
          exact congrArg V.int (nat_ediv _ _)
        · rw [if_neg ez]
      · rintro σ' H3 ⟨v4, rfl, f3, e3⟩
        refine ⟨_, rfl, q d H3 hd0 (((f1.trans f2).nil.trans f3).shrink fun b hb => .inr (by rw [List.mem_singleton.mp hb]; exact hd0)) ?_⟩
        rw [e3, nVs_len, List.take_length]
/-! ### inner_hall -/
def nmS (names : List Str) (w : Nat) : Str := names.getD w ⟨#[]⟩
theorem nmS_at {names : List Str} {w : Nat} (h : w < names.length) : names[w]? = some (nmS names w) := by
  unfold nmS
  rw [List.getD_eq_getElem?_getD, List.getElem?_eq_getElem h]
  rfl
theorem nmS_mem {names : List Str} {w : Nat} (h : w < names.length) : nmS names w ∈ names := List.mem_of_getElem? (nmS_at h)
theorem nmS_inj {names : List Str} {a b : Nat} (hd : names.Nodup) (ha : a < names.length) (hb : b < names.length) (h : nmS names a = nmS names b) : a = b := by
  have h1 := nmS_at ha
  have h2 := nmS_at hb
  rw [h, ← h2] at h1
  exact (List.getElem?_inj ha hd).mp h1
def relB (M : List Nat) (b : Belt) : Belt := ⟨M.idxOf b.g, M.idxOf b.t, b.gv, b.tk, b.st⟩
def inM (M : List Nat) (b : Belt) : Bool := decide (b.g ∈ M) && decide (b.t ∈ M)
def innerBs (M : List Nat) (bs : List Belt) : List Belt := (bs.filter (inM M)).map (relB M)
theorem innerBs_take {M : List Nat} {bs : List Belt} {i : Nat} {b : Belt} (h : bs[i]? = some b) : innerBs M (bs.take (i + 1)) = innerBs M (bs.take i) ++ if inM M b = true then [relB M b] else [] := by
  unfold innerBs
  rw [List.take_add_one, h, Option.toList_some, List.filter_append, List.map_append]
  congr 1
  cases hb : inM M b with
  | true => rw [if_pos rfl, List.filter_cons_of_pos hb]; rfl
  | false => rw [if_neg (by decide), List.filter_cons_of_neg (by rw [hb]; decide)]; rfl
theorem innerBs_len {M : List Nat} {bs : List Belt} : (innerBs M bs).length ≤ bs.length := by
  unfold innerBs
  rw [List.length_map]
  exact List.length_filter_le _ _
theorem of_inner {M : List Nat} {bs : List Belt} {b : Belt} (h : b ∈ innerBs M bs) : ∃ c, c ∈ bs ∧ c.g ∈ M ∧ c.t ∈ M ∧ b = relB M c := by
  unfold innerBs at h
  obtain ⟨c, hc, rfl⟩ := List.mem_map.mp h
  obtain ⟨h1, h2⟩ := List.mem_filter.mp hc
  obtain ⟨h3, h4⟩ := Bool.and_eq_true_iff.mp h2
  exact ⟨c, h1, of_decide_eq_true h3, of_decide_eq_true h4, rfl⟩
theorem idx_lt {M : List Nat} {x : Nat} (h : x ∈ M) : M.idxOf x < M.length := (List.getElem?_eq_some_iff.mp (at_idx h)).1
/-- what this law asks of a hall -/
structure HallOk (names : List Str) (bs : List Belt) : Prop where
  isn : ∀ x, x ∈ names → IsName x
  nd : names.Nodup
  le : names.length ≤ 20
  wi : Within names.length bs
  ps : ∀ b, b ∈ bs → 0 < b.gv ∧ 0 < b.tk
  bl : bs.length ≤ 50
def spInner (K : PySem.W.Frag) : Sp := fun vs H Q _ => ∃ (h m l1 l2 : Addr) (names : List Str) (bs : List Belt) (M : List Nat), vs = [.ref h, .ref m] ∧ HallAt K H h l1 l2 names bs ∧ HallOk names bs ∧ H m = some (.lst (nVs M)) ∧ M.Nodup ∧ (∀ x, x ∈ M → x < names.length) ∧
  ∀ (p k1 k2 : Addr) (H' : Hp), H p = none → HallAt K H' p k1 k2 (M.map (nmS names)) (innerBs M bs) → Fr [] H H' → Q (.ref p) H'
theorem sc_inner_hall : FnScope ["hall", "members", "names", "inner", "work", "giver", "taker", "give", "take", "start"] ["hall", "members"] (defScope s_inner_hall) := ⟨rfl, rfl, rfl, by decide +kernel, rfl, by decide +kernel, by decide +kernel⟩
theorem eqV_self (x : Nat) : eqV (nV x) (nV x) = true := by
  rw [eqV_nat]
  simp
theorem no_before {M : List Nat} {x : Nat} (m : Nat) (z : V) (hm : m < M.idxOf x) (hz : (nVs M)[m]? = some z) : eqV z (nV x) = false := by
  obtain ⟨y, hy, rfl⟩ := of_nVs hz
  rw [eqV_nat, decide_eq_false (before_idx hm hy)]
theorem ok_inner_hall (T : Tx K mg) : Okf P w K mg base 3 (He.ga K "inner_hall") ["hall", "members"] (spInner K) := by
  obtain ⟨fN, GN, kN', bN⟩ := ok_Hall_names (P := P) (w := w) (base := base) T
  obtain ⟨fB, GB, kB, bB⟩ := ok_Hall_belts (P := P) (w := w) (base := base) T
  obtain ⟨fI, GI, kI, bI⟩ := ok_Hall_init (P := P) (w := w) (base := base) T
  obtain ⟨fW, GW, kW, bW⟩ := ok_Hall_work (P := P) (w := w) (base := base) T
  obtain ⟨fL, GL, kL, bL, bL0⟩ := ok_Hall_belt (P := P) (w := w) (base := base) T
  refine okf_of T.df_inner_hall sc_inner_hall (fun _ _ _ _ _ _ us hl => match us, hl with | [_, _], _ => rfl) (fun vs H Q E h => ?_) (fun cdv A outer s H vs Q E hr h => ?_)
  · obtain ⟨h, m, l1, l2, names, bs, M, rfl, _⟩ := h
    rfl
  · obtain ⟨h, m, l1, l2, names, bs, M, rfl, A0, O, hm, hMd, hMlt, q⟩ := h
    have hr1 : Room 1 _ := hr.mono (by decide)
    refine ⟨_, pss_cons (ps_set (i := 2) sc_inner_hall.nd rfl (.inl rfl) (pe_meth0 (pv 0) T.cl_Hall T.m_Hall_names GN hr1 bN .nil pass0))
      (pss_cons (ps_set (i := 3) sc_inner_hall.nd rfl (.inl rfl) (pe_make0 T.mk_Hall GI hr (by rfl) T.g_Hall bI .nil pass0))
      (pss_cons (ps_for PassesOwn.never rfl (pi_list (pv 1)) (pg_name (i := 4) sc_inner_hall.nd rfl (.inl rfl))
        (pss_one (ps_expr (pe_meth (pv 3) T.cl_Hall T.m_Hall_work GW hr bW .nil pass0 (pa_cons (pe_ix ix_list (pv 2) (pv 4) (fun _ _ => rfl)) pa_nil)))))
      (pss_cons (ps_for PassesOwn.never rfl (pi_list (pe_meth0 (pv 0) T.cl_Hall T.m_Hall_belts GB hr1 bB .nil pass0))
          (pg_tup rfl (pgs_cons (pg_name (i := 5) sc_inner_hall.nd rfl (.inl rfl)) (pgs_cons (pg_name (i := 6) sc_inner_hall.nd rfl (.inl rfl)) (pgs_cons (pg_name (i := 7) sc_inner_hall.nd rfl (.inl rfl)) (pgs_cons (pg_name (i := 8) sc_inner_hall.nd rfl (.inl rfl)) (pgs_cons (pg_name (i := 9) sc_inner_hall.nd rfl (.inl rfl)) pgs_nil))))))
        (pss_one (ps_if (PW.pt (pw_and (pt_cmpR op_in_seq (pv 5) (pv 1) (by rfl)) (pw_and1 (pt_cmpR op_in_seq (pv 6) (pv 1) (by rfl)))))
          (pss_one (ps_expr (pe_meth (pv 3) T.cl_Hall T.m_Hall_belt GL hr bL .nil pass0 (pa_cons (pe_bm PySem.F.plainAttrs_list PySem.F.slot_list_index PySem.F.type_list_index mt_index (pv 1) (pa_cons (pv 5) pa_nil)) (pa_cons (pe_bm PySem.F.plainAttrs_list PySem.F.slot_list_index PySem.F.type_list_index mt_index (pv 1) (pa_cons (pv 6) pa_nil)) (pa_cons (pv 7) (pa_cons (pv 8) (pa_cons (pv 9) pa_nil))))))))
          pss_nil)))
      (pss_one (ps_ret (pv 3)))))), ?_⟩
    obtain ⟨dx, eh⟩ := A0.ob
    have nN : (hF l1 l2).lookup ("names" : Str) = none := hF_no _ _ (by decide +kernel) (by decide +kernel)
    have nB : ∀ a b, (hF a b).lookup ("belts" : Str) = none := fun a b => hF_no _ _ (by decide +kernel) (by decide +kernel)
    have nW : ∀ a b, (hF a b).lookup ("work" : Str) = none := fun a b => hF_no _ _ (by decide +kernel) (by decide +kernel)
    have nL : ∀ a b, (hF a b).lookup ("belt" : Str) = none := fun a b => hF_no _ _ (by decide +kernel) (by decide +kernel)
    refine ⟨_, rfl, h, dx, _, rfl, eh, nN, h, l1, l2, names, bs, rfl, A0, fun ln H1 hln f1 en => fun p dxp hp hdxp hne => ?_⟩
    have g1 : Fr [] H1 (upd (upd H1 dxp (.own p)) p (.ins (He.ga K "Hall") dxp [])) := (Fr.n0 hdxp).new (by rw [upd_ne hne.symm]; exact hp)
    have ep : (upd (upd H1 dxp (.own p)) p (.ins (He.ga K "Hall") dxp [])) p = some (.ins (He.ga K "Hall") dxp []) := upd_same
    generalize upd (upd H1 dxp (.own p)) p (.ins (He.ga K "Hall") dxp []) = H2 at g1 ep ⊢
    refine ⟨p, dxp, rfl, ep, fun H3 k1 k2 hk1 hk2 A3 f3 => ⟨rfl, ?_⟩⟩
    have hp0 : H p = none := f1.free hp
    have F2 := f1.trans g1
    have hk10 := F2.free hk1
    have hk20 := F2.free hk2
    have F3 : Fr [] H H3 := (F2.nil.trans f3).shrink fun b hb => .inr (by rw [List.mem_singleton.mp hb]; exact hp0)
    have hm2 := F2.at_ hm
    have hm3 := F3.at_ hm
    have en2 := g1.at_ en
    have nlp : ln ≠ p := ne_of_none en hp
    have en3 := f3.kp _ _ en2 (by simpa using nlp)
    have nk : ∀ {a : Addr} {u : HO}, H2 a = some u → a ∉ [k1, k2] := fun {a u} e => by
      have n1 : a ≠ k1 := ne_of_none e hk1
      have n2 : a ≠ k2 := ne_of_none e hk2
      simp [n1, n2]
    have nm2 := nk hm2
    have nln := nk en2
    have hMl : M.length ≤ 20 := Nat.le_trans (nodup_le hMd hMlt) O.le
    refine ⟨_, rfl, m, rfl, ⟨_, SqL.of hm3⟩, for_list (K := K) (a := m) (xs := nVs M) (fun i σ' H' => ∃ v4 : Option V, σ' = [some (.ref h), some (.ref m), some (.ref ln), some (.ref p), v4, none, none, none, none, none] ∧ Fr [k1, k2] H3 H' ∧ HallAt K H' p k1 k2 ((M.take i).map (nmS names)) [])
      ⟨none, rfl, Fr.refl _ _, A3⟩ (fun i σ' H' _ ⟨_, _, f, _⟩ => SqL.of (f.kp _ _ hm3 nm2)) ?_ ?_⟩
    · rintro i y σ' H4 hi ⟨v4, rfl, f4, A4⟩
      obtain ⟨x, hx, rfl⟩ := of_nVs hi
      have hxn := hMlt x (List.mem_of_getElem? hx)
      have hil := (List.getElem?_eq_some_iff.mp hx).1
      obtain ⟨dx4, ep4⟩ := A4.ob
      have hnx : (names.map V.str)[x]? = some (.str (nmS names x)) := by rw [List.getElem?_map, nmS_at hxn]; rfl
      refine ⟨_, rfl, p, dx4, _, rfl, ep4, nW _ _, _, rfl, _, rfl, ln, _, x, _, rfl, rfl, SqL.of (f4.kp _ _ en3 nln), atI_nat (j := x) hnx, p, k1, k2, _, _, nmS names x, rfl, A4, O.isn _ (nmS_mem hxn), fun hc => ?_, by rw [List.length_map, List.length_take]; omega, fun H5 A5 f5 => ?_⟩
      · obtain ⟨z, hz, ez⟩ := List.mem_map.mp hc
        have hzM := List.mem_of_mem_take hz
        have e := nmS_inj O.nd (hMlt z hzM) hxn ez
        rw [e] at hz
        exact not_take hMd hx hz
      · refine ⟨_, rfl, f4.trans (f5.mono fun b hb => by simp at hb; simp [hb]), ?_⟩
        rw [take_mem hx, List.map_append]
        exact A5
    · rintro σ' H4 ⟨v4, rfl, f4, A4⟩
      rw [nVs_len, List.take_length] at A4
      have F4 : Fr [] H H4 := (F3.nil.trans f4).shrink fun b hb => by
        rcases List.mem_cons.mp hb with z | z
        · exact .inr (by rw [z]; exact hk10)
        · exact .inr (by rw [List.mem_singleton.mp z]; exact hk20)
      have B4 := A0.keep F4
      obtain ⟨dx4, eh4⟩ := B4.ob
      refine ⟨_, rfl, h, dx4, _, rfl, eh4, nB _ _, h, l1, l2, names, bs, rfl, B4, fun bl H5 hbl f5 hb5 => ?_⟩
      have A5 := A4.keep f5
      obtain ⟨as, ebl, tps⟩ := hb5
      have nbl : bl ∉ [k1, k2] := by
        obtain ⟨as2, e2, _⟩ := A4.bl
        have n1 : bl ≠ k1 := (ne_of_none A4.nm hbl).symm
        have n2 : bl ≠ k2 := (ne_of_none e2 hbl).symm
        simp [n1, n2]
      have hm5 : H5 m = some (.lst (nVs M)) := f5.at_ (f4.kp _ _ hm3 nm2)
      refine ⟨bl, rfl, ⟨_, SqL.of ebl⟩, for_list (K := K) (a := bl) (xs := rV as) (fun i σ' H' => ∃ (v4 v5 v6 v7 v8 v9 : Option V), σ' = [some (.ref h), some (.ref m), some (.ref ln), some (.ref p), v4, v5, v6, v7, v8, v9] ∧ Fr [k1, k2] H5 H' ∧ HallAt K H' p k1 k2 (M.map (nmS names)) (innerBs M (bs.take i)))
        ⟨_, _, _, _, _, _, rfl, Fr.refl _ _, A5⟩ (fun i σ' H' _ ⟨_, _, _, _, _, _, _, f, _⟩ => SqL.of (f.kp _ _ ebl nbl)) ?_ ?_⟩
      · rintro i y σ' H6 hi ⟨v4, v5, v6, v7, v8, v9, rfl, f6, A6⟩
        obtain ⟨a, ha, rfl⟩ := of_rV hi
        obtain ⟨b, hb, hta⟩ := tps.at_ ha
        have hbm := List.mem_of_getElem? hb
        have hbi := (List.getElem?_eq_some_iff.mp hb).1
        refine ⟨a, _, rfl, SqT.of (f6.tp _ _ hta), rfl, _, _, rfl, _, _, rfl, _, _, rfl, _, _, rfl, _, _, rfl, rfl, ?_⟩
        have hm6 := f6.kp _ _ hm5 nm2
        refine Evl.s_when (b := inM M b) (Evl.et_and (Evl.et_test (ev_inN (Evl.ev_var rfl) (Evl.ev_var rfl) hm6)) fun _ => Evl.et_test (ev_inN (Evl.ev_var rfl) (Evl.ev_var rfl) hm6)) (fun hc H7 e7 => ?_) (fun hc H7 e7 => ?_)
        · have A7 := A6.keep (.of_ex e7)
          have hm7 := e7 _ _ hm6
          obtain ⟨dx7, ep7⟩ := A7.ob
          obtain ⟨c1, c2⟩ := Bool.and_eq_true_iff.mp hc
          have hgM : b.g ∈ M := of_decide_eq_true c1
          have htM : b.t ∈ M := of_decide_eq_true c2
          have hl60 : (innerBs M (bs.take i)).length < 60 := by
            have h1 := innerBs_len (M := M) (bs := bs.take i)
            have h2 := O.bl
            rw [List.length_take] at h1
            omega
          refine ⟨_, rfl, p, dx7, _, rfl, ep7, nL _ _, _, rfl, .inl ⟨rfl, _, SqL.of hm7⟩, _, rfl, m, nVs M, nV b.g, M.idxOf b.g, nV b.g, rfl, rfl, SqL.of hm7, rfl, flat_nVs _, nVs_at (at_idx hgM), eqV_self _, no_before, ?_⟩
          refine ⟨_, rfl, .inl ⟨rfl, _, SqL.of hm7⟩, _, rfl, m, nVs M, nV b.t, M.idxOf b.t, nV b.t, rfl, rfl, SqL.of hm7, rfl, flat_nVs _, nVs_at (at_idx htM), eqV_self _, no_before, ?_⟩
          refine ⟨_, rfl, _, rfl, _, rfl, p, k1, k2, _, _, relB M b, rfl, A7, by rw [List.length_map]; exact idx_lt hgM, by rw [List.length_map]; exact idx_lt htM, (O.ps b hbm).1, (O.ps b hbm).2, hl60, fun H8 A8 f8 => ?_⟩
          refine ⟨_, _, _, _, _, _, rfl, (f6.trans (Fr.of_ex e7).nil).trans (f8.mono fun z hz => by simp at hz; simp [hz]), ?_⟩
          rw [innerBs_take hb, if_pos hc]
          exact A8
        · refine ⟨_, _, _, _, _, _, rfl, f6.trans (Fr.of_ex e7).nil, ?_⟩
          rw [innerBs_take hb, hc, if_neg (by decide), List.append_nil]
          exact A6.keep (.of_ex e7)
      · rintro σ' H6 ⟨v4, v5, v6, v7, v8, v9, rfl, f6, A6⟩
        rw [rV_len, tps.1, List.take_length] at A6
        refine ⟨_, rfl, q p k1 k2 H6 hp0 A6 ((((F4.trans f5).nil.trans f6).shrink fun b hb => ?_))⟩
        rcases List.mem_cons.mp hb with z | z
        · exact .inr (by rw [z]; exact hk10)
        · exact .inr (by rw [List.mem_singleton.mp z]; exact hk20)
end
end RH
/-! The inner row of a group. -/
namespace RH
open PySem PySem.Spec PyProof.Rows L2
/-! ### ample starts -/
def Amp (bs : List Belt) (xs left : List Nat) : Prop := ∀ (i : Nat) (b : Belt) (x : Nat), bs[i]? = some b → xs[i]? = some x → b.tk * nth left b.t ≤ x
theorem Amp.enough {bs : List Belt} {xs left : List Nat} {k : Nat} (h : Amp bs xs left) (hk : 0 < nth left k) : Enough bs xs k := fun i b x hb hx e => by
  have := h i b x hb hx
  rw [e] at this
  exact Nat.le_trans (Nat.le_mul_of_pos_right _ hk) this
theorem shiftB_ge {k : Nat} {b : Belt} {x : Nat} : (if b.t = k then x - b.tk else x) ≤ shiftB k b x := by
  unfold shiftB
  by_cases h1 : b.g = k
  · rw [if_pos h1]; omega
  · rw [if_neg h1]; exact Nat.le_refl _
theorem Amp.turn {bs : List Belt} {xs left : List Nat} {k : Nat} (h : Amp bs xs left) (hk : k < left.length) (h0 : 0 < nth left k) : Amp bs (shiftL bs xs k) (left.set k (nth left k - 1)) := fun i b y hb hy => by
  unfold shiftL at hy
  rw [List.getElem?_zipWith, hb] at hy
  cases hx : xs[i]? with
  | none => rw [hx] at hy; cases hy
  | some x =>
    rw [hx] at hy
    have ey : shiftB k b x = y := Option.some.inj hy
    have h1 := h i b x hb hx
    have h2 := shiftB_ge (k := k) (b := b) (x := x)
    rw [← ey]
    refine Nat.le_trans ?_ h2
    by_cases e : b.t = k
    · rw [if_pos e, e, nth_set_self hk]
      rw [e] at h1
      rw [Nat.mul_sub, Nat.mul_one]
      omega
    · rw [if_neg e, nth_set_ne (fun z => e z.symm)]
      exact h1
theorem sum_set : ∀ {left : List Nat} {k : Nat}, k < left.length → 0 < nth left k → (left.set k (nth left k - 1)).sum + 1 = left.sum
  | x :: r, 0, _, h => by
    have h' : 0 < x := h
    show ((x - 1) :: r).sum + 1 = (x :: r).sum
    rw [List.sum_cons, List.sum_cons]
    omega
  | x :: r, k + 1, hk, h => by
    have ih := sum_set (left := r) (k := k) (by simpa using hk) h
    have e : nth (x :: r) (k + 1) = nth r k := rfl
    rw [e, List.set_cons_succ, List.sum_cons, List.sum_cons]
    omega
theorem sum_pos : ∀ {left : List Nat}, 0 < left.sum → ∃ k, k < left.length ∧ 0 < nth left k
  | [], h => by simp at h
  | x :: r, h => by
    rw [List.sum_cons] at h
    by_cases hx : 0 < x
    · exact ⟨0, Nat.zero_lt_succ _, hx⟩
    · obtain ⟨k, h1, h2⟩ := sum_pos (left := r) (by omega)
      exact ⟨k + 1, Nat.succ_lt_succ h1, h2⟩
theorem sum_cast : ∀ left : List Nat, (left.map fun n : Nat => (n : Int)).sum = ((left.sum : Nat) : Int)
  | [] => rfl
  | x :: r => by rw [List.map_cons, List.sum_cons, List.sum_cons, sum_cast r, Int.natCast_add]
theorem sum_bound {b : Nat} : ∀ {r : List Nat}, (∀ x, x ∈ r → x ≤ b) → r.sum ≤ b * r.length
  | [], _ => by simp
  | x :: r, h => by
    have h1 := sum_bound (r := r) fun y hy => h y (List.mem_cons_of_mem _ hy)
    have h2 := h x List.mem_cons_self
    rw [List.sum_cons, List.length_cons, Nat.mul_add, Nat.mul_one]
    omega
section
variable {P : Program} {w : World} {K : PySem.W.Frag} {mg : Str → Option Value} {base : Heap}
def spRow (K : PySem.W.Frag) : Sp := fun vs H Q _ => ∃ (h m d l1 l2 : Addr) (names : List Str) (bs : List Belt) (M : List Nat) (tn : Nat → Nat), vs = [.ref h, .ref m, .ref d] ∧ HallAt K H h l1 l2 names bs ∧ HallOk names bs ∧ H m = some (.lst (nVs M)) ∧ M.Nodup ∧ (∀ x, x ∈ M → x < names.length) ∧
  H d = some (.dK (dF M fun x => nV (tn x))) ∧ (∀ x, x ∈ M → tn x ≤ 6) ∧ (∀ b, b ∈ bs → b.g ∈ M → b.t ∈ M → b.tk * tn b.t ≤ b.st) ∧
  ∀ row : List Nat, row.length ≤ 1000 → RL (nVs row) H Q
theorem sc_inner_row : FnScope ["hall", "members", "turns", "floor", "left", "work", "row", "some", "at"] ["hall", "members", "turns"] (defScope s_inner_row) := ⟨rfl, rfl, rfl, by decide +kernel, rfl, by decide +kernel, by decide +kernel⟩
theorem ok_inner_row (T : Tx K mg) : Okf P w K mg base 4 (He.ga K "inner_row") ["hall", "members", "turns"] (spRow K) := by
  obtain ⟨fI, GI, kI, bI⟩ := ok_inner_hall (P := P) (w := w) (base := base) T
  obtain ⟨fF', GF, kF, bF⟩ := ok_Floor_init (P := P) (w := w) (base := base) T
  obtain ⟨fR, GR, kR, bR⟩ := ok_Floor_ready (P := P) (w := w) (base := base) T
  obtain ⟨fT, GT, kT, bT⟩ := ok_Floor_turn (P := P) (w := w) (base := base) T
  refine okf_of T.df_inner_row sc_inner_row (fun _ _ _ _ _ _ us hl => match us, hl with | [_, _, _], _ => rfl) (fun vs H Q E h => ?_) (fun cdv A outer s H vs Q E hr h => ?_)
  · obtain ⟨h, m, d, l1, l2, names, bs, M, tn, rfl, _⟩ := h
    rfl
  · obtain ⟨h, m, d, l1, l2, names, bs, M, tn, rfl, A0, O, hm, hMd, hMlt, hd, ht6, hst, q⟩ := h
    have hu := hu_of hr
    have hr2 : Room 2 _ := hr.mono (by decide)
    refine ⟨_, pss_cons (ps_set (i := 3) sc_inner_row.nd rfl (.inr rfl) (pe_make T.mk_Floor GF hr (by rfl) T.g_Floor bF .nil pass0 (pa_cons (pe_call GI hr (by rfl) T.g_inner_hall kI bI .nil pass0 (pa_cons (pv 0) (pa_cons (pv 1) pa_nil))) pa_nil)))
      (pss_cons (ps_set (i := 4) sc_inner_row.nd rfl (.inr rfl) (pe_lc (own := [("work", 5), ("at", 8)]) (g := gName 5) (tt := tYes) (te := tDGet (tVar 2) (tVar 5)) rfl sc_inner_row.nd (pi_list (pv 1)) (blkOk_by (own := [("work", 5), ("at", 8)]) (N := ["hall", "members", "turns", "floor", "left", "work", "row", "some", "at"]) (sc := defScope s_inner_row) (by decide +kernel)) (fun _ _ _ _ _ => pg_name (i := 5) sc_inner_row.nd rfl (Or.inl rfl)) (fun _ _ _ _ _ => pts_nil)
        (fun _ _ _ _ _ => pe_dget hu (pv 2) (pv 5) (fun _ _ => rfl))))
      (pss_cons (ps_set (i := 6) sc_inner_row.nd rfl (.inl rfl) (pe_lst pa_nil))
      (pss_cons (ps_while PassesOwn.never (pt_cmpR op_gt (pe_callB (cr_sum rfl) (by rfl) T.b_sum (by decide +kernel) (pa_cons (pv 4) pa_nil)) pe_int (nomark _))
        (pss_cons (ps_setLc (i := 7) (own := [("work", 5), ("at", 8)]) (g := gName 8) (tt := tAnd (tTest (tOp (rI0 fun i j => .bl (decide (j < i))) (tOp (rIxL K) (tVar 4) (tVar 8)) (tC (.int 0)))) (tB (tMeth (He.ga K "Floor") "ready" (spReady K) [] E0 (tVar 3) (tCons (tVar 8) tNil)))) (te := tVar 8) rfl sc_inner_row.nd rfl rfl (sw_true rfl rfl rfl rfl) (pi_range1 (by rfl) T.b_range (pa_cons (pe_callB call_len_seq (by rfl) T.b_len PySem.boot_len (pa_cons (pv 1) pa_nil)) pa_nil)) (blkOk_by (own := [("work", 5), ("at", 8)]) (N := ["hall", "members", "turns", "floor", "left", "work", "row", "some", "at"]) (sc := defScope s_inner_row) (by decide +kernel)) (fun _ _ _ _ _ => pg_name (i := 8) sc_inner_row.nd rfl (Or.inl rfl))
          (fun _ _ _ _ _ => pts_one (PW.pt (pw_and (pt_cmpR op_gt (pe_ix ix_list (pv 4) (pv 8) (fun _ _ => rfl)) pe_int (nomark _)) (pw_and1 (pt_val (pe_meth (pv 3) T.cl_Floor T.m_Floor_ready GR hr2 bR .nil pass0 (pa_cons (pv 8) pa_nil)))))))
          (fun _ _ _ _ _ => pv 8))
        (pss_cons (ps_if (pt_cmpR (op_eqD hr.units) (pv 7) (pe_lst pa_nil) (nomark _)) pss_no pss_nil)
        (pss_cons (ps_expr (pe_meth (pv 3) T.cl_Floor T.m_Floor_turn GT hr bT .nil pass0 (pa_cons (pe_ix ix_list (pv 7) pe_int (fun _ _ => rfl)) pa_nil)))
        (pss_cons (ps_augS (pv 4) (pe_ix ix_list (pv 7) pe_int (fun _ _ => rfl)) get_list pe_int ip_sub set_list)
        (pss_one (ps_expr (pe_bm PySem.F.plainAttrs_list PySem.F.slot_list_append PySem.F.type_list_append mt_append (pv 6) (pa_cons (pe_ix ix_list (pv 1) (pe_ix ix_list (pv 7) pe_int (fun _ _ => rfl)) (fun _ _ => rfl)) pa_nil)))))))))
      (pss_one (ps_ret (pv 6)))))), ?_⟩
    have hMl : M.length ≤ 20 := Nat.le_trans (nodup_le hMd hMlt) O.le
    refine ⟨_, rfl, _, rfl, h, m, l1, l2, names, bs, M, rfl, A0, O, hm, hMd, hMlt, fun hi k1 k2 H1 hhi Ai f1 => fun fl dxf hfl hdxf hne => ?_⟩
    have g1 : Fr [] H1 (upd (upd H1 dxf (.own fl)) fl (.ins (He.ga K "Floor") dxf [])) := (Fr.n0 hdxf).new (by rw [upd_ne hne.symm]; exact hfl)
    have efl : (upd (upd H1 dxf (.own fl)) fl (.ins (He.ga K "Floor") dxf [])) fl = some (.ins (He.ga K "Floor") dxf []) := upd_same
    generalize upd (upd H1 dxf (.own fl)) fl (.ins (He.ga K "Floor") dxf []) = H2 at g1 efl ⊢
    have hil : (innerBs M bs).length ≤ 50 := Nat.le_trans innerBs_len O.bl
    refine ⟨fl, dxf, hi, k1, k2, _, _, rfl, efl, Ai.keep g1, by omega, fun H3 ll lh AF f3 => ⟨rfl, ?_⟩⟩
    have hfl0 : H fl = none := f1.free hfl
    have F3 : Fr [] H H3 := ((f1.trans g1).nil.trans f3).shrink fun b hb => .inr (by rw [List.mem_singleton.mp hb]; exact hfl0)
    rw [List.length_map] at AF
    have hm3 := F3.at_ hm
    have hd3 := F3.at_ hd
    refine g_go ?_
    dsimp only
    refine Evl.q_asgL (el_mapN (L := M) (f := tn) (Evl.ev_var rfl) (SqL.of hm3) (by omega) (fun _ => by rfl) (fun i x H1 e hx => ev_dget (v := fun x => nV (tn x)) (Evl.ev_var rfl) (Evl.ev_var rfl) (e _ _ hd3) (List.mem_of_getElem? hx))) (fun lf H4 hlf e4 elf => ?_)
    refine ⟨Nat.zero_le _, fun rw0 hrw => ?_⟩
    have F4 : Fr [] H H4 := F3.trans (.of_ex e4)
    have f5 : Fr [] H4 (upd H4 rw0 (.lst [])) := Fr.n0 hrw
    have e5r : (upd H4 rw0 (.lst [])) rw0 = some (.lst (nVs [])) := upd_same
    have hrw0 := F4.free hrw
    have hlf0 := F3.free hlf
    have AF5 := (AF.keep (.of_ex e4)).keep f5
    have elf5 := f5.at_ elf
    have F5 := F4.trans f5
    have nfr : lf ≠ rw0 := ne_of_none elf hrw
    generalize upd H4 rw0 (.lst []) = H5 at f5 e5r AF5 elf5 F5 ⊢
    have n1 : lh ≠ lf ∧ lh ≠ rw0 := ⟨ne_of_none AF.hp hlf, ne_of_none ((AF.keep (.of_ex e4)).hp) hrw⟩
    have n2 : ll ≠ lf ∧ ll ≠ rw0 := by
      obtain ⟨as, e, _⟩ := AF.bl
      exact ⟨ne_of_none e hlf, ne_of_none (e4 _ _ e) hrw⟩
    have n3 : fl ≠ lf ∧ fl ≠ rw0 := by
      obtain ⟨dx3, e⟩ := AF.ob
      exact ⟨ne_of_none e hlf, ne_of_none (e4 _ _ e) hrw⟩
    have n4 : m ∉ [fl, lf, rw0] := by
      have a1 : m ≠ fl := ne_of_none hm hfl0
      have a2 : m ≠ lf := ne_of_none hm3 hlf
      have a3 : m ≠ rw0 := ne_of_none (F4.at_ hm) hrw
      simp [a1, a2, a3]
    have hm5 := F5.at_ hm
    have hS0 : (M.map tn).sum ≤ 120 := by
      have := sum_bound (b := 6) (r := M.map tn) fun x hx => by
        obtain ⟨y, hy, rfl⟩ := List.mem_map.mp hx
        exact ht6 y hy
      rw [List.length_map] at this
      omega
    have hamp : Amp (innerBs M bs) ((innerBs M bs).map (·.st)) (M.map tn) := fun i b x hb hx => by
      rw [List.getElem?_map, hb] at hx
      have ex : b.st = x := Option.some.inj hx
      obtain ⟨c, hc, hg, ht, rfl⟩ := of_inner (List.mem_of_getElem? hb)
      have e : nth (M.map tn) (relB M c).t = tn c.t := nth_of (by
        show (M.map tn)[M.idxOf c.t]? = _
        rw [List.getElem?_map, at_idx ht]
        rfl)
      rw [e, ← ex]
      exact hst c hc hg ht
    refine ⟨fun mm σ' H' => ∃ (left xs row : List Nat) (lh' : Addr) (v5 v7 v8 : Option V), σ' = [some (.ref h), some (.ref m), some (.ref d), some (.ref fl), some (.ref lf), v5, some (.ref rw0), v7, v8] ∧ Fr [fl, lf, rw0] H5 H' ∧ FloorAt K H' fl ll lh' M.length (innerBs M bs) xs ∧
        H' lf = some (.lst (nVs left)) ∧ H' rw0 = some (.lst (nVs row)) ∧ left.length = M.length ∧ Amp (innerBs M bs) xs left ∧ left.sum + row.length = (M.map tn).sum ∧ lh' ≠ lf ∧ lh' ≠ rw0 ∧ mm = left.sum,
      ⟨_, M.map tn, _, [], lh, _, _, _, rfl, Fr.refl _ _, AF5, elf5, e5r, by rw [List.length_map], hamp, by simp, n1.1, n1.2, rfl⟩, ?_⟩
    rintro mm σ' H6 ⟨left, xs, row, lh', v5, v7, v8, rfl, f6, A6, elf6, erw6, hll, hA, hsm, m1, m2, hmm⟩
    refine ⟨_, rfl, lf, left.map fun n : Nat => (n : Int), rfl, by rw [← nVs_eq]; exact SqL.of elf6, _, _, rfl, rfl, _, rfl, ?_⟩
    show if decide ((0 : Int) < (left.map fun n : Nat => (n : Int)).sum) = true then _ else _
    rw [sum_cast]
    by_cases h0 : 0 < left.sum
    · rw [if_pos (decide_eq_true (by omega))]
      refine ⟨fun σ' H' => ∃ (left xs row : List Nat) (lh' : Addr) (v5 v7 v8 : Option V), σ' = [some (.ref h), some (.ref m), some (.ref d), some (.ref fl), some (.ref lf), v5, some (.ref rw0), v7, v8] ∧ Fr [fl, lf, rw0] H5 H' ∧ FloorAt K H' fl ll lh' M.length (innerBs M bs) xs ∧
        H' lf = some (.lst (nVs left)) ∧ H' rw0 = some (.lst (nVs row)) ∧ left.length = M.length ∧ Amp (innerBs M bs) xs left ∧ left.sum + row.length = (M.map tn).sum ∧ lh' ≠ lf ∧ lh' ≠ rw0 ∧ left.sum < mm, fun σ' H' ⟨l2, x2, r2, a2, u5, u7, u8, e1, e2, e3, e4, e5, e6, e7, e8, e9, e10, e11⟩ => ⟨_, e11, l2, x2, r2, a2, u5, u7, u8, e1, e2, e3, e4, e5, e6, e7, e8, e9, e10, rfl⟩, ?_⟩
      have hm6 := f6.kp _ _ hm5 n4
      obtain ⟨k0, hk0, hk1⟩ := sum_pos h0
      refine Evl.q_asgL (Evl.el_lcR1 (n := ((nVs M).length : Int)) (fun j => decide (0 < nth left j)) (fun j => nV j) (Evl.ea_cons (ev_lenL (Evl.ev_var rfl) hm6) Evl.ea_nil) ⟨by omega, by rw [nVs_len]; omega⟩ (fun _ => by rfl) (fun j H1 e hj => ?_) (fun j H1 e hj _ => Evl.ev_var rfl)) (fun sm H7 hsm7 e7 esm => ?_)
      · have hjl : j < left.length := by
          rw [nVs_len] at hj
          omega
        refine Evl.et_is (Evl.et_and (b := true) (et_gtI (a := (nth left j : Int)) (ev_ixL (Evl.ev_var rfl) (Evl.ev_var rfl) (e _ _ elf6) (nVs_nth hjl)) Evl.ev_c) fun hp => Evl.et_B ?_) (a := decide ((0 : Int) < (nth left j : Int)) && true) ?_
        · have hpos : 0 < nth left j := by
            have := of_decide_eq_true hp
            omega
          intro H8 e8 Q8 q8
          have A8 := (A6.keep (.of_ex e)).keep (.of_ex e8)
          obtain ⟨dx8, ef8⟩ := A8.ob
          exact ⟨_, rfl, fl, dx8, _, rfl, ef8, fF_no _ _ _ (by decide +kernel) (by decide +kernel) (by decide +kernel), _, rfl, fl, ll, lh', M.length, _, xs, j, rfl, A8, by omega, hA.enough hpos, fun H9 f9 => q8 H9 f9.ex⟩
        · rw [Bool.and_true]
          by_cases z : 0 < nth left j
          · rw [decide_eq_true z, decide_eq_true (by omega)]
          · rw [decide_eq_false z, decide_eq_false (by omega)]
      · have esm2 : H7 sm = some (.lst (nVs ((List.range M.length).filter fun j => decide (0 < nth left j)))) := by
          rw [esm, nVs_len]
          rfl
        have hkS : k0 ∈ (List.range M.length).filter fun j => decide (0 < nth left j) := List.mem_filter.mpr ⟨List.mem_range.mpr (by omega), decide_eq_true hk1⟩
        generalize hS : ((List.range M.length).filter fun j => decide (0 < nth left j)) = S at esm2 hkS
        have hS1 : 0 < S.length := List.length_pos_of_mem hkS
        have hkm : nth S 0 ∈ S := nth_mem hS1
        rw [← hS] at hkm
        obtain ⟨a1, a2⟩ := List.mem_filter.mp hkm
        rw [hS] at a1 a2
        have hkn : nth S 0 < M.length := List.mem_range.mp a1
        have hkp : 0 < nth left (nth S 0) := of_decide_eq_true a2
        have hSe : S.isEmpty = false := by
          cases S with
          | nil => simp at hS1
          | cons a b => rfl
        have A7 := A6.keep (.of_ex e7)
        have elf7 := e7 _ _ elf6
        have erw7 := e7 _ _ erw6
        have F7 : Fr [fl, lf, rw0] H5 H7 := f6.trans (Fr.of_ex e7).nil
        refine Evl.q_when (b := S.isEmpty) (Evl.et_test (ev_eqNil (Evl.ev_var rfl) esm2)) (fun hc => by rw [hSe] at hc; cases hc) (fun _ H8 e8 => ?_)
        have A8 := A7.keep (.of_ex e8)
        have elf8 := e8 _ _ elf7
        have erw8 := e8 _ _ erw7
        have esm8 := e8 _ _ esm2
        have F8 : Fr [fl, lf, rw0] H5 H8 := F7.trans (Fr.of_ex e8).nil
        have nsl : sm ≠ lf := (ne_of_none elf6 hsm7).symm
        have nsr : sm ≠ rw0 := (ne_of_none erw6 hsm7).symm
        have nsf : sm ≠ fl := by
          obtain ⟨dx6, e⟩ := A6.ob
          exact (ne_of_none e hsm7).symm
        obtain ⟨dx8, ef8⟩ := A8.ob
        refine ⟨_, rfl, fl, dx8, _, rfl, ef8, fF_no _ _ _ (by decide +kernel) (by decide +kernel) (by decide +kernel), _, rfl, sm, _, 0, _, rfl, rfl, SqL.of esm8, atI_nat (j := 0) (nVs_nth hS1), fl, ll, lh', M.length, _, xs, nth S 0, rfl, A8, hkn, by omega, hA.enough hkp, fun H9 lh9 hlh9 A9 f9 => ?_⟩
        have elf9 := f9.kp _ _ elf8 (by simpa using n3.1.symm)
        have erw9 := f9.kp _ _ erw8 (by simpa using n3.2.symm)
        have esm9 := f9.kp _ _ esm8 (by simpa using nsf)
        have F9 : Fr [fl, lf, rw0] H5 H9 := F8.trans (f9.mono fun b hb => by simp at hb; simp [hb])
        have p1 : lh9 ≠ lf := (ne_of_none elf8 hlh9).symm
        have p2 : lh9 ≠ rw0 := (ne_of_none erw8 hlh9).symm
        -- left[some[0]] -= 1
        refine ⟨_, rfl, _, rfl, sm, _, 0, _, rfl, rfl, SqL.of esm9, atI_nat (j := 0) (nVs_nth hS1), lf, _, nth S 0, _, rfl, rfl, SqL.of elf9, nVs_nth (by omega), _, _, rfl, rfl, lf, _, _, nth S 0, rfl, rfl, elf9, ixN_nat (by rw [nVs_len]; omega), ?_⟩
        have eset : (nVs left).set (nth S 0) (V.int ((nth left (nth S 0) : Int) - 1)) = nVs (left.set (nth S 0) (nth left (nth S 0) - 1)) := by
          unfold nVs
          rw [List.map_set]
          exact congrArg (fun v => List.set _ _ v) (congrArg V.int (by omega))
        rw [eset]
        have f10 : Fr [lf] H9 (upd H9 lf (.lst (nVs (left.set (nth S 0) (nth left (nth S 0) - 1))))) := (Fr.refl _ H9).mutL (.inl (by simp)) elf9
        have elf10 : (upd H9 lf (.lst (nVs (left.set (nth S 0) (nth left (nth S 0) - 1))))) lf = some (.lst (nVs (left.set (nth S 0) (nth left (nth S 0) - 1)))) := upd_same
        generalize upd H9 lf (.lst (nVs (left.set (nth S 0) (nth left (nth S 0) - 1)))) = H10 at f10 elf10 ⊢
        have erw10 := f10.kp _ _ erw9 (by simpa using nfr.symm)
        have esm10 := f10.kp _ _ esm9 (by simpa using nsl)
        have A10 := A9.kept f10 (by simpa using n3.1) (by simpa using n2.1) (by simpa using p1)
        have F10 : Fr [fl, lf, rw0] H5 H10 := F9.trans (f10.mono fun b hb => by simp at hb; simp [hb])
        have hm10 := F10.kp _ _ hm5 n4
        have hrl : row.length < 100000 := by omega
        refine ⟨_, rfl, .inl ⟨rfl, _, SqL.of erw10⟩, _, rfl, _, rfl, sm, _, 0, _, rfl, rfl, SqL.of esm10, atI_nat (j := 0) (nVs_nth hS1), m, _, nth S 0, _, rfl, rfl, SqL.of hm10, atI_nat (j := nth S 0) (nVs_nth hkn), rw0, _, _, rfl, rfl, erw10, by rw [nVs_len]; exact small_line' hrl, ?_⟩
        have f11 : Fr [rw0] H10 (upd H10 rw0 (.lst (nVs row ++ [nV (nth M (nth S 0))]))) := (Fr.refl _ H10).mutL (.inl (by simp)) erw10
        have hss := sum_set (left := left) (k := nth S 0) (by omega) hkp
        refine ⟨left.set (nth S 0) (nth left (nth S 0) - 1), _, row ++ [nth M (nth S 0)], lh9, _, _, _, rfl, F10.trans (f11.mono fun b hb => by simp at hb; simp [hb]), A10.kept f11 (by simpa using n3.2) (by simpa using n2.2) (by simpa using p2), f11.kp _ _ elf10 (by simpa using nfr), by rw [upd_same, nVs_app]; rfl, by rw [List.length_set]; exact hll, hA.turn (by omega) hkp, by rw [List.length_append, List.length_singleton]; omega, p1, p2, by omega⟩
    · rw [if_neg (by simp; omega)]
      refine ⟨_, rfl, q row (by omega) rw0 H6 hrw0 ((F5.nil.trans f6).shrink fun b hb => ?_) erw6⟩
      simp at hb
      rcases hb with z | z | z
      · exact .inr (by rw [z]; exact hfl0)
      · exact .inr (by rw [z]; exact hlf0)
      · exact .inr (by rw [z]; exact hrw0)
end
end RH
/-! The joint of a hall and a group. -/
namespace RH
open PySem PySem.Spec PyProof.Rows L2
/-! ### what a joint holds -/
def keptL (n : Nat) (M : List Nat) : List Nat := (List.range n).filter fun w => !decide (w ∈ M.drop 1)
def calledL (names : List Str) (M : List Nat) : List Str := (keptL names.length M).map (nmS names)
def tieB (kept M : List Nat) (tn : Nat → Nat) (b : Belt) : Belt :=
  ⟨kept.idxOf (if b.g ∈ M then nth M 0 else b.g), kept.idxOf (if b.t ∈ M then nth M 0 else b.t), if b.g ∈ M then b.gv * tn b.g else b.gv, if b.t ∈ M then b.tk * tn b.t else b.tk, b.st⟩
def tiedL (n : Nat) (M : List Nat) (tn : Nat → Nat) (bs : List Belt) : List Belt := (bs.filter fun b => !inM M b).map (tieB (keptL n M) M tn)
theorem tiedL_take {n : Nat} {M : List Nat} {tn : Nat → Nat} {bs : List Belt} {i : Nat} {b : Belt} (h : bs[i]? = some b) : tiedL n M tn (bs.take (i + 1)) = tiedL n M tn (bs.take i) ++ if inM M b = true then [] else [tieB (keptL n M) M tn b] := by
  unfold tiedL
  rw [List.take_add_one, h, Option.toList_some, List.filter_append, List.map_append]
  congr 1
  cases hb : inM M b with
  | true => rw [if_pos rfl, List.filter_cons_of_neg (by rw [hb]; decide)]; rfl
  | false => rw [if_neg (by decide), List.filter_cons_of_pos (by rw [hb]; rfl)]; rfl
theorem mem_kept {n w : Nat} {M : List Nat} : w ∈ keptL n M ↔ w < n ∧ w ∉ M.drop 1 := by
  unfold keptL
  rw [List.mem_filter, List.mem_range]
  simp
theorem first_kept {n : Nat} {M : List Nat} (hd : M.Nodup) (hne : M ≠ []) (hlt : ∀ x, x ∈ M → x < n) : nth M 0 ∈ keptL n M := by
  cases M with
  | nil => exact absurd rfl hne
  | cons a r =>
    refine mem_kept.mpr ⟨hlt a List.mem_cons_self, ?_⟩
    exact (List.nodup_cons.mp hd).1
theorem other_kept {n w : Nat} {M : List Nat} (hw : w < n) (h : w ∉ M) : w ∈ keptL n M := mem_kept.mpr ⟨hw, fun z => h (List.mem_of_mem_drop z)⟩
theorem kept_len {n : Nat} {M : List Nat} : (keptL n M).length ≤ n := by
  unfold keptL
  exact Nat.le_trans (List.length_filter_le _ _) (by rw [List.length_range]; exact Nat.le_refl _)
theorem cut_tail {M : List Nat} (h : M ≠ []) : cutV (nVs M) (some 1) none = nVs (M.drop 1) := by
  cases M with
  | nil => exact absurd rfl h
  | cons a r =>
    unfold cutV
    rw [show (some (1 : Int)) = some ((1 : Nat) : Int) from rfl, HT.sIx_nat, HT.sIx_none]
    have e : min 1 (nVs (a :: r)).length = 1 := by rw [nVs_len, List.length_cons]; omega
    rw [e, List.take_of_length_le (by rw [List.length_drop]; omega)]
    rfl
theorem putF_new {f : Str} {v : V} : ∀ {fs : List (Str × V)}, (∀ g, g ∈ fs.map (·.1) → g ≠ f) → putF f v fs = fs ++ [(f, v)]
  | [], _ => rfl
  | (g, x) :: r, h => by
    rw [putF_ne (h g (by simp)), putF_new fun k hk => h k (by simp at hk ⊢; exact .inr hk)]
    rfl
def jF (wl : Addr) (fst : Nat) (kl cl tl : Addr) : List (Str × V) := [("within", .ref wl), ("first", nV fst), ("kept", .ref kl), ("called", .ref cl), ("tied", .ref tl)]
theorem n_fw : ("first" : Str) ≠ "within" := by decide +kernel
theorem n_kw : ("kept" : Str) ≠ "within" := by decide +kernel
theorem n_kf : ("kept" : Str) ≠ "first" := by decide +kernel
theorem n_cw : ("called" : Str) ≠ "within" := by decide +kernel
theorem n_cf : ("called" : Str) ≠ "first" := by decide +kernel
theorem n_ck : ("called" : Str) ≠ "kept" := by decide +kernel
theorem n_tw : ("tied" : Str) ≠ "within" := by decide +kernel
theorem n_tf : ("tied" : Str) ≠ "first" := by decide +kernel
theorem n_tk : ("tied" : Str) ≠ "kept" := by decide +kernel
theorem n_tc : ("tied" : Str) ≠ "called" := by decide +kernel
section
variable (wl kl cl tl : Addr) (fst : Nat)
theorem jF_within : (jF wl fst kl cl tl).lookup ("within" : Str) = some (.ref wl) := by
  unfold jF
  rw [look_eq]
theorem jF_first : (jF wl fst kl cl tl).lookup ("first" : Str) = some (nV fst) := by
  unfold jF
  rw [look_ne n_fw, look_eq]
theorem jF_kept : (jF wl fst kl cl tl).lookup ("kept" : Str) = some (.ref kl) := by
  unfold jF
  rw [look_ne n_kw, look_ne n_kf, look_eq]
theorem jF_called : (jF wl fst kl cl tl).lookup ("called" : Str) = some (.ref cl) := by
  unfold jF
  rw [look_ne n_cw, look_ne n_cf, look_ne n_ck, look_eq]
theorem jF_tied : (jF wl fst kl cl tl).lookup ("tied" : Str) = some (.ref tl) := by
  unfold jF
  rw [look_ne n_tw, look_ne n_tf, look_ne n_tk, look_ne n_tc, look_eq]
theorem jF_no {m : Str} (h1 : m ≠ "within") (h2 : m ≠ "first") (h3 : m ≠ "kept") (h4 : m ≠ "called") (h5 : m ≠ "tied") : (jF wl fst kl cl tl).lookup m = none := by
  unfold jF
  rw [look_ne h1, look_ne h2, look_ne h3, look_ne h4, look_ne h5]
  rfl
end
/-- a joint -/
structure JointAt (K : PySem.W.Frag) (H : Hp) (p wl kl cl tl : Addr) (names : List Str) (bs : List Belt) (M row : List Nat) (tn : Nat → Nat) : Prop where
  ob : ∃ dx, H p = some (.ins (He.ga K "Joint") dx (jF wl (nth M 0) kl cl tl))
  w : H wl = some (.lst (nVs row))
  k : H kl = some (.lst (nVs (keptL names.length M)))
  c : H cl = some (.lst ((calledL names M).map V.str))
  t : Bls H tl (tiedL names.length M tn bs)
theorem JointAt.kept {K : PySem.W.Frag} {H H' : Hp} {p wl kl cl tl : Addr} {names : List Str} {bs : List Belt} {M row : List Nat} {tn : Nat → Nat} {S : List Addr} (A : JointAt K H p wl kl cl tl names bs M row tn) (x : Fr S H H') (h0 : p ∉ S) (h1 : wl ∉ S) (h2 : kl ∉ S) (h3 : cl ∉ S) (h4 : tl ∉ S) : JointAt K H' p wl kl cl tl names bs M row tn :=
  ⟨let ⟨dx, e⟩ := A.ob; ⟨dx, x.kp _ _ e h0⟩, x.kp _ _ A.w h1, x.kp _ _ A.k h2, x.kp _ _ A.c h3, A.t.kept x h4⟩
theorem JointAt.keep {K : PySem.W.Frag} {H H' : Hp} {p wl kl cl tl : Addr} {names : List Str} {bs : List Belt} {M row : List Nat} {tn : Nat → Nat} (A : JointAt K H p wl kl cl tl names bs M row tn) (x : Fr [] H H') : JointAt K H' p wl kl cl tl names bs M row tn :=
  A.kept x (by simp) (by simp) (by simp) (by simp) (by simp)
/-- how often each member turns in a turn of the group -/
def tnOf (r M : List Nat) (x : Nat) : Nat := nth r x / gcdL (M.map (nth r))
section
open Evl
variable {K : PySem.W.Frag} {σ : L2.St} {H : Hp} {te ta tb tr : TE}
theorem ev_notInX {x : Nat} {xs : List Nat} (h1 : Ev ta σ H (nV x)) (h2 : EvL tb σ H (nVs xs)) : Ev (tOp (rIn K true) ta tb) σ H (.bl (!decide (x ∈ xs))) := fun H1 e Q q =>
  h1 H1 e _ fun H2 e2 => h2 H2 (e.trans e2) _ fun p H3 hp e3 ep => ⟨p, _, rfl, .inl (SqL.of ep), rfl, flat_nVs _, by
    have k := q H3 (e2.trans e3)
    rw [← inV_nat] at k
    exact k⟩
theorem ev_ixX {xs : List V} {j : Nat} {v : V} (h1 : EvL ta σ H xs) (h2 : Ev tb σ H (nV j)) (hv : xs[j]? = some v) : Ev (tOp (rIxL K) ta tb) σ H v := fun H1 e Q q =>
  h1 H1 e _ fun p H2 hp e2 ep => h2 H2 (e.trans e2) _ fun H3 e3 => ⟨p, xs, j, v, rfl, rfl, SqL.of (e3 _ _ ep), atI_nat hv, q H3 (e2.trans e3)⟩
end
section
variable {P : Program} {w : World} {K : PySem.W.Frag} {mg : Str → Option Value} {base : Heap}
theorem tnOf_le {n : Nat} {bs : List Belt} {r M : List Nat} (B : Rts n bs r) (hM : ∀ x, x ∈ M → x < n) {x : Nat} (hx : x ∈ M) : tnOf r M x ≤ nth r x ∧ 0 < tnOf r M x ∧ tnOf r M x * gcdL (M.map (nth r)) = nth r x := by
  have hd : gcdL (M.map (nth r)) ∣ nth r x := gcdL_dvd (List.mem_map_of_mem hx)
  have hp := B.pos x (hM x hx)
  have hg : 0 < gcdL (M.map (nth r)) := Nat.pos_of_dvd_of_pos hd hp
  refine ⟨Nat.div_le_self _ _, Nat.div_pos (Nat.le_of_dvd hp hd) hg, Nat.div_mul_cancel hd⟩
def spJoint (K : PySem.W.Frag) : Sp := fun vs H Q _ => ∃ (p dx h g l1 l2 : Addr) (names : List Str) (bs : List Belt) (r L : List Nat), vs = [.ref p, .ref h, .ref g] ∧ H p = some (.ins (He.ga K "Joint") dx []) ∧ HallAt K H h l1 l2 names bs ∧ HallOk names bs ∧ Rts names.length bs r ∧
  H g = some (.lst (nVs L)) ∧ L.Nodup ∧ L ≠ [] ∧ (∀ x, x ∈ L → x < names.length) ∧ (∀ b, b ∈ bs → b.tk * nth r b.t ≤ b.st) ∧
  ∀ (M row : List Nat) (wl kl cl tl : Addr) (H' : Hp), M.Perm L → M.Pairwise (· < ·) → row.length ≤ 1000 → JointAt K H' p wl kl cl tl names bs M row (tnOf r M) → H wl = none → H kl = none → H cl = none → H tl = none → Fr [p] H H' → Q .non H'
theorem sc_Joint_init : FnScope ["self", "hall", "group", "members", "turns", "work", "giver", "taker", "give", "take", "start"] ["self", "hall", "group"] (defScope s_Joint_init) := ⟨rfl, rfl, rfl, by decide +kernel, rfl, by decide +kernel, by decide +kernel⟩
theorem ok_Joint_init (T : Tx K mg) : Okf P w K mg base 8 (He.ma K (He.ga K "Joint") "__init__") ["self", "hall", "group"] (spJoint K) := by
  obtain ⟨fM, GM, kM, bM⟩ := ok_members_of (P := P) (w := w) (base := base) T
  obtain ⟨fT, GT, kT, bT⟩ := ok_turns_of (P := P) (w := w) (base := base) T
  obtain ⟨fR, GR, kR, bR⟩ := ok_inner_row (P := P) (w := w) (base := base) T
  obtain ⟨fN, GN, kN', bN⟩ := ok_Hall_names (P := P) (w := w) (base := base) T
  obtain ⟨fB, GB, kB, bB⟩ := ok_Hall_belts (P := P) (w := w) (base := base) T
  refine okf_of T.df_Joint_init sc_Joint_init (fun _ _ _ _ _ _ us hl => match us, hl with | [_, _, _], _ => rfl) (fun vs H Q E h => ?_) (fun cdv A outer s H vs Q E hr h => ?_)
  · obtain ⟨p, dx, h, g, l1, l2, names, bs, r, L, rfl, _⟩ := h
    rfl
  · obtain ⟨p, dx, h, g, l1, l2, names, bs, r, L, rfl, hp, A0, O, Rs, hg, hLd, hLne, hLlt, hst, q⟩ := h
    have hu := hu_of hr
    have hr1 : Room 1 _ := hr.mono (by decide)
    have hr2 : Room 2 _ := hr.mono (by decide)
    have hr4 : Room 4 _ := hr.mono (by decide)
    refine ⟨_, pss_cons (ps_set (i := 3) sc_Joint_init.nd rfl (.inr rfl) (pe_call GM hr2 (by rfl) T.g_members_of kM bM .nil pass0 (pa_cons (pv 1) (pa_cons (pv 2) pa_nil))))
      (pss_cons (ps_set (i := 4) sc_Joint_init.nd rfl (.inl rfl) (pe_call GT hr (by rfl) T.g_turns_of kT bT .nil pass0 (pa_cons (pv 1) (pa_cons (pv 3) pa_nil))))
      (pss_cons (ps_fld (pv 0) (pe_call GR hr4 (by rfl) T.g_inner_row kR bR .nil pass0 (pa_cons (pv 1) (pa_cons (pv 3) (pa_cons (pv 4) pa_nil)))) rfl)
      (pss_cons (ps_fld (pv 0) (pe_ix ix_list (pv 3) pe_int (fun _ _ => rfl)) rfl)
      (pss_cons (ps_fld (pv 0) (pe_lc (own := [("work", 5)]) (g := gName 5) (tt := tTest (tOp (rIn K true) (tVar 5) (tSl (rSlL K) (tVar 3) (tPart (tC (.int 1))) tNoPart))) (te := tVar 5) rfl sc_Joint_init.nd (pi_range1 (by rfl) T.b_range (pa_cons (pe_callB call_len_seq (by rfl) T.b_len PySem.boot_len (pa_cons (pe_meth0 (pv 1) T.cl_Hall T.m_Hall_names GN hr1 bN .nil pass0) pa_nil)) pa_nil)) (blkOk_by (own := [("work", 5)]) (N := ["self", "hall", "group", "members", "turns", "work", "giver", "taker", "give", "take", "start"]) (sc := defScope s_Joint_init) (by decide +kernel)) (fun _ _ _ _ _ => pg_name (i := 5) sc_Joint_init.nd rfl (Or.inl rfl))
          (fun _ _ _ _ _ => pts_one (pt_cmpR op_notIn_seq (pv 5) (pe_slice sl_list (pv 3) (po_some pe_int) po_none) (by rfl)))
          (fun _ _ _ _ _ => pv 5)) rfl)
      (pss_cons (ps_fld (pv 0) (pe_lc (own := [("work", 5)]) (g := gName 5) (tt := tYes) (te := tOp (rIxL K) (tMeth (He.ga K "Hall") "names" (spNames K) [] E0 (tVar 1) tNil) (tVar 5)) rfl sc_Joint_init.nd (pi_list (pe_fld (pv 0) rfl)) (blkOk_by (own := [("work", 5)]) (N := ["self", "hall", "group", "members", "turns", "work", "giver", "taker", "give", "take", "start"]) (sc := defScope s_Joint_init) (by decide +kernel)) (fun _ _ _ _ _ => pg_name (i := 5) sc_Joint_init.nd rfl (Or.inl rfl)) (fun _ _ _ _ _ => pts_nil)
          (fun _ _ _ _ _ => pe_ix ix_list (pe_meth0 (pv 1) T.cl_Hall T.m_Hall_names GN hr1 bN .nil pass0) (pv 5) (fun _ _ => rfl))) rfl)
      (pss_cons (ps_fld (pv 0) (pe_lst pa_nil) rfl)
      (pss_one (ps_for PassesOwn.never rfl (pi_list (pe_meth0 (pv 1) T.cl_Hall T.m_Hall_belts GB hr1 bB .nil pass0))
          (pg_tup rfl (pgs_cons (pg_name (i := 6) sc_Joint_init.nd rfl (.inl rfl)) (pgs_cons (pg_name (i := 7) sc_Joint_init.nd rfl (.inl rfl)) (pgs_cons (pg_name (i := 8) sc_Joint_init.nd rfl (.inl rfl)) (pgs_cons (pg_name (i := 9) sc_Joint_init.nd rfl (.inl rfl)) (pgs_cons (pg_name (i := 10) sc_Joint_init.nd rfl (.inl rfl)) pgs_nil))))))
        (pss_cons (ps_if (PW.pt (pw_and (pt_cmpR op_in_seq (pv 6) (pv 3) (by rfl)) (pw_and1 (pt_cmpR op_in_seq (pv 7) (pv 3) (by rfl))))) (pss_one ps_continue) pss_nil)
        (Evl.pss_cut (ps_if (pt_cmpR op_in_seq (pv 6) (pv 3) (by rfl)) (pss_cons (ps_set (i := 8) sc_Joint_init.nd rfl (.inl rfl) (pe_op op_mulW (pv 8) (pe_dget hu (pv 4) (pv 6) (fun _ _ => rfl)))) (pss_one (ps_set (i := 6) sc_Joint_init.nd rfl (.inl rfl) (pe_fld (pv 0) rfl)))) pss_nil)
        (Evl.pss_cut (ps_if (pt_cmpR op_in_seq (pv 7) (pv 3) (by rfl)) (pss_cons (ps_set (i := 9) sc_Joint_init.nd rfl (.inl rfl) (pe_op op_mulW (pv 9) (pe_dget hu (pv 4) (pv 7) (fun _ _ => rfl)))) (pss_one (ps_set (i := 7) sc_Joint_init.nd rfl (.inl rfl) (pe_fld (pv 0) rfl)))) pss_nil)
        (pss_one (ps_expr (pe_bm PySem.F.plainAttrs_list PySem.F.slot_list_append PySem.F.type_list_append mt_append (pe_fld (pv 0) rfl) (pa_cons (pe_tup (pa_cons (pe_bm PySem.F.plainAttrs_list PySem.F.slot_list_index PySem.F.type_list_index mt_index (pe_fld (pv 0) rfl) (pa_cons (pv 6) pa_nil)) (pa_cons (pe_bm PySem.F.plainAttrs_list PySem.F.slot_list_index PySem.F.type_list_index mt_index (pe_fld (pv 0) rfl) (pa_cons (pv 7) pa_nil)) (pa_cons (pv 8) (pa_cons (pv 9) (pa_cons (pv 10) pa_nil)))))) pa_nil))))))))))))))), ?_⟩
    have hO := O.le
    refine ⟨_, rfl, _, rfl, h, g, l1, l2, names, bs, L, rfl, A0, hg, hLd, hLne, hLlt, by omega, fun M hM hMs m H1 hm f1 em => ?_⟩
    have hMd : M.Nodup := hM.nodup_iff.mpr hLd
    have hMne : M ≠ [] := fun e => by
      rw [e] at hM
      exact hLne (List.nil_perm.mp hM)
    have hMlt : ∀ x, x ∈ M → x < names.length := fun x hx => hLlt x (hM.mem_iff.mp hx)
    have hM0 : 0 < M.length := List.length_pos_iff.mpr hMne
    have hMl : M.length ≤ names.length := nodup_le hMd hMlt
    refine ⟨_, rfl, _, rfl, h, m, l1, l2, names, bs, r, M, rfl, A0.keep f1, Rs, by omega, em, hMne, hMd, hMlt, fun d H2 hd f2 ed => ?_⟩
    have F2 := f1.trans f2
    have em2 := f2.at_ em
    have ht6 : ∀ x, x ∈ M → tnOf r M x ≤ 6 := fun x hx => Nat.le_trans (tnOf_le Rs hMlt hx).1 (Rs.le6 x (hMlt x hx))
    refine ⟨_, rfl, _, rfl, _, rfl, h, m, d, l1, l2, names, bs, M, tnOf r M, rfl, A0.keep F2, O, em2, hMd, hMlt, ed, ht6, fun b hb _ ht => Nat.le_trans (Nat.mul_le_mul_left _ (tnOf_le Rs hMlt ht).1) (hst b hb), fun row hrow wl H3 hwl f3 ew => ?_⟩
    have F3 := F2.trans f3
    have ep3 := F3.at_ hp
    refine ⟨_, rfl, p, _, dx, [], rfl, ep3, T.cl_Joint, T.n_Joint_within, (by show 0 < 1000; decide), ?_⟩
    rw [putF_nil]
    have nhp : h ≠ p := fun e => by
      obtain ⟨dh, eh⟩ := A0.ob
      rw [e, hp] at eh
      have e2 := HO.ins.inj (Option.some.inj eh)
      exact absurd e2.2.2 (by unfold hF; simp)
    have nl1 : l1 ≠ p := ne_of A0.nm hp (by intro z; cases z)
    have nl2 : l2 ≠ p := by
      obtain ⟨as, e, _⟩ := A0.bl
      exact ne_of e hp (by intro z; cases z)
    have keepA : ∀ {H' : Hp}, Fr [p] H H' → HallAt K H' h l1 l2 names bs := fun {H'} f => A0.kept f (by simpa using nhp) (by simpa using nl1) (by simpa using nl2)
    have np : ∀ {H' : Hp} {a : Addr}, Fr [p] H H' → H' a = none → a ∉ [p] := fun {H' a} f e => by
      have := (ne_of_none hp (f.free e)).symm
      simpa using this
    have nmp := np f1.nil (a := m) |> fun (k : H1 m = none → m ∉ [p]) => (show m ∉ [p] by
      have := (ne_of_none hp hm).symm
      simpa using this)
    have ndp : d ∉ [p] := by
      have := (ne_of_none hp (f1.free hd)).symm
      simpa using this
    have hwl0 := F2.free hwl
    have nwp : wl ∉ [p] := by
      have := (ne_of_none hp hwl0).symm
      simpa using this
    have st1 : Fr [p] H3 (upd H3 p (.ins (He.ga K "Joint") dx [("within", .ref wl)])) := (Fr.refl _ H3).mutI (.inl (by simp)) ep3
    have ep4 : (upd H3 p (.ins (He.ga K "Joint") dx [("within", .ref wl)])) p = some (.ins (He.ga K "Joint") dx [("within", .ref wl)]) := upd_same
    generalize upd H3 p (.ins (He.ga K "Joint") dx [("within", .ref wl)]) = H4 at st1 ep4 ⊢
    have F4 : Fr [p] H H4 := F3.nil.trans st1
    have em4 := st1.kp _ _ (f3.at_ em2) nmp
    have ed4 := st1.kp _ _ (f3.at_ ed) ndp
    have ew4 := st1.kp _ _ ew nwp
    -- first
    refine ⟨_, rfl, m, _, 0, _, rfl, rfl, SqL.of em4, atI_nat (j := 0) (nVs_nth hM0), _, rfl, p, _, dx, _, rfl, ep4, T.cl_Joint, T.n_Joint_first, (by show 1 < 1000; decide), ?_⟩
    rw [putF_ne n_fw.symm, putF_nil]
    have st2 : Fr [p] H4 (upd H4 p (.ins (He.ga K "Joint") dx [("within", .ref wl), ("first", nV (nth M 0))])) := (Fr.refl _ H4).mutI (.inl (by simp)) ep4
    have ep5 : (upd H4 p (.ins (He.ga K "Joint") dx [("within", .ref wl), ("first", nV (nth M 0))])) p = some (.ins (He.ga K "Joint") dx [("within", .ref wl), ("first", nV (nth M 0))]) := upd_same
    generalize upd H4 p (.ins (He.ga K "Joint") dx [("within", .ref wl), ("first", nV (nth M 0))]) = H5 at st2 ep5 ⊢
    have F5 := F4.trans st2
    have em5 := st2.kp _ _ em4 nmp
    have ed5 := st2.kp _ _ ed4 ndp
    have ew5 := st2.kp _ _ ew4 nwp
    have A5 := keepA F5
    -- kept
    refine q_fldL (Evl.el_lcR1 (n := ((names.map V.str).length : Int)) (fun j => !decide (j ∈ M.drop 1)) (fun j => nV j) (Evl.ea_cons (ev_lenX (el_names T (Evl.ev_var rfl) A5)) Evl.ea_nil) ⟨by omega, by rw [List.length_map]; omega⟩ (fun _ => by rfl) (fun j H1 e hj => ?_) (fun j H1 e hj _ => Evl.ev_var rfl)) rfl ep5 T.cl_Joint T.n_Joint_kept (by show 2 < 1000; decide) (fun kl H6 hkl f6 ek ep6 => ?_)
    · refine Evl.et_test (ev_notInX (Evl.ev_var rfl) ?_)
      rw [← show cutV (nVs M) (some 1) none = nVs (M.drop 1) from cut_tail hMne]
      exact Evl.el_sl (Evl.ev_var rfl) (Evl.eo_some Evl.ev_c) Evl.eo_none (SqL.of (e _ _ em5))
    have ek2 : H6 kl = some (.lst (nVs (keptL names.length M))) := by
      rw [ek, List.length_map]
      rfl
    rw [putF_ne n_kw.symm, putF_ne n_kf.symm, putF_nil]
    have hkl0 := F5.free hkl
    have nkp : kl ∉ [p] := by
      have := (ne_of_none hp hkl0).symm
      simpa using this
    have st3 : Fr [p] H6 (upd H6 p (.ins (He.ga K "Joint") dx [("within", .ref wl), ("first", nV (nth M 0)), ("kept", .ref kl)])) := (Fr.refl _ H6).mutI (.inl (by simp)) ep6
    have ep7 : (upd H6 p (.ins (He.ga K "Joint") dx [("within", .ref wl), ("first", nV (nth M 0)), ("kept", .ref kl)])) p = some (.ins (He.ga K "Joint") dx [("within", .ref wl), ("first", nV (nth M 0)), ("kept", .ref kl)]) := upd_same
    generalize upd H6 p (.ins (He.ga K "Joint") dx [("within", .ref wl), ("first", nV (nth M 0)), ("kept", .ref kl)]) = H7 at st3 ep7 ⊢
    have F7 := (F5.trans f6.nil).trans st3
    have em7 := st3.kp _ _ (f6.at_ em5) nmp
    have ed7 := st3.kp _ _ (f6.at_ ed5) ndp
    have ew7 := st3.kp _ _ (f6.at_ ew5) nwp
    have ek7 := st3.kp _ _ ek2 nkp
    have A7 := keepA F7
    have lk7 : ([("within", .ref wl), ("first", nV (nth M 0)), ("kept", .ref kl)] : List (Str × V)).lookup ("kept" : Str) = some (.ref kl) := by rw [look_ne n_kw, look_ne n_kf, look_eq]
    -- called
    refine q_fldL (el_map (xs := nVs (keptL names.length M)) (ys := (calledL names M).map V.str) (ev_fld (Evl.ev_var rfl) ep7 T.cl_Joint T.n_Joint_kept lk7) (SqL.of ek7) (by rw [nVs_len]; have := kept_len (n := names.length) (M := M); omega) (by unfold calledL; rw [nVs_len, List.length_map, List.length_map]) (fun _ => by rfl) (fun i x y H1 e hx hy => ?_)) rfl ep7 T.cl_Joint T.n_Joint_called (by show 3 < 1000; decide) (fun cl H8 hcl f8 ec ep8 => ?_)
    · obtain ⟨x, hx2, rfl⟩ := of_nVs hx
      have hxn := (mem_kept.mp (List.mem_of_getElem? hx2)).1
      unfold calledL at hy
      rw [List.getElem?_map, List.getElem?_map, hx2] at hy
      rw [← Option.some.inj hy]
      exact ev_ixX (j := x) (el_names T (Evl.ev_var rfl) (A7.keep (.of_ex e))) (Evl.ev_var rfl) (by rw [List.getElem?_map, nmS_at hxn]; rfl)
    rw [putF_ne n_cw.symm, putF_ne n_cf.symm, putF_ne n_ck.symm, putF_nil]
    have hcl0 := F7.free hcl
    have ncp : cl ∉ [p] := by
      have := (ne_of_none hp hcl0).symm
      simpa using this
    have st4 : Fr [p] H8 (upd H8 p (.ins (He.ga K "Joint") dx [("within", .ref wl), ("first", nV (nth M 0)), ("kept", .ref kl), ("called", .ref cl)])) := (Fr.refl _ H8).mutI (.inl (by simp)) ep8
    have ep9 : (upd H8 p (.ins (He.ga K "Joint") dx [("within", .ref wl), ("first", nV (nth M 0)), ("kept", .ref kl), ("called", .ref cl)])) p = some (.ins (He.ga K "Joint") dx [("within", .ref wl), ("first", nV (nth M 0)), ("kept", .ref kl), ("called", .ref cl)]) := upd_same
    generalize upd H8 p (.ins (He.ga K "Joint") dx [("within", .ref wl), ("first", nV (nth M 0)), ("kept", .ref kl), ("called", .ref cl)]) = H9 at st4 ep9 ⊢
    have F9 := (F7.trans f8.nil).trans st4
    have em9 := st4.kp _ _ (f8.at_ em7) nmp
    have ed9 := st4.kp _ _ (f8.at_ ed7) ndp
    have ew9 := st4.kp _ _ (f8.at_ ew7) nwp
    have ek9 := st4.kp _ _ (f8.at_ ek7) nkp
    have ec9 := st4.kp _ _ ec ncp
    -- tied
    refine ⟨Nat.zero_le _, fun tl htl => ?_⟩
    have f10 : Fr [] H9 (upd H9 tl (.lst [])) := Fr.n0 htl
    have et10 : (upd H9 tl (.lst [])) tl = some (.lst (rV [])) := upd_same
    have ep10 := f10.at_ ep9
    generalize upd H9 tl (.lst []) = H10 at f10 et10 ep10 ⊢
    refine ⟨_, rfl, p, _, dx, _, rfl, ep10, T.cl_Joint, T.n_Joint_tied, (by show 4 < 1000; decide), ?_⟩
    rw [putF_ne n_tw.symm, putF_ne n_tf.symm, putF_ne n_tk.symm, putF_ne n_tc.symm, putF_nil]
    have st5 : Fr [p] H10 (upd H10 p (.ins (He.ga K "Joint") dx [("within", .ref wl), ("first", nV (nth M 0)), ("kept", .ref kl), ("called", .ref cl), ("tied", .ref tl)])) := (Fr.refl _ H10).mutI (.inl (by simp)) ep10
    have ep11 : (upd H10 p (.ins (He.ga K "Joint") dx [("within", .ref wl), ("first", nV (nth M 0)), ("kept", .ref kl), ("called", .ref cl), ("tied", .ref tl)])) p = some (.ins (He.ga K "Joint") dx (jF wl (nth M 0) kl cl tl)) := upd_same
    generalize upd H10 p (.ins (He.ga K "Joint") dx [("within", .ref wl), ("first", nV (nth M 0)), ("kept", .ref kl), ("called", .ref cl), ("tied", .ref tl)]) = H11 at st5 ep11 ⊢
    have F11 := (F9.trans f10.nil).trans st5
    have htl0 := F9.free htl
    have ntp : tl ∉ [p] := by
      have := (ne_of_none hp htl0).symm
      simpa using this
    have em11 := st5.kp _ _ (f10.at_ em9) nmp
    have ed11 := st5.kp _ _ (f10.at_ ed9) ndp
    have ew11 := st5.kp _ _ (f10.at_ ew9) nwp
    have ek11 := st5.kp _ _ (f10.at_ ek9) nkp
    have ec11 := st5.kp _ _ (f10.at_ ec9) ncp
    have et11 := st5.kp _ _ et10 ntp
    have A11 := keepA F11
    obtain ⟨dxh, eh11⟩ := A11.ob
    have nB : (hF l1 l2).lookup ("belts" : Str) = none := hF_no _ _ (by decide +kernel) (by decide +kernel)
    refine ⟨_, rfl, h, dxh, _, rfl, eh11, nB, h, l1, l2, names, bs, rfl, A11, fun bl H12 hbl f12 hb12 => ?_⟩
    obtain ⟨as, ebl, tps⟩ := hb12
    have nt : ∀ {a : Addr} {u : HO}, H9 a = some u → a ∉ [tl] := fun {a u} e => by
      have := ne_of_none e htl
      simpa using this
    have nbt : bl ∉ [tl] := by
      have := (ne_of_none et11 hbl).symm
      simpa using this
    have npt := nt ep9
    have em12 := f12.at_ em11
    have ed12 := f12.at_ ed11
    have ep12 := f12.at_ ep11
    have ek12 := f12.at_ ek11
    refine ⟨bl, rfl, ⟨_, SqL.of ebl⟩, for_list (K := K) (a := bl) (xs := rV as) (fun i σ' H' => ∃ (ts : List Addr) (v6 v7 v8 v9 v10 : Option V), σ' = [some (.ref p), some (.ref h), some (.ref g), some (.ref m), some (.ref d), none, v6, v7, v8, v9, v10] ∧ Fr [tl] H12 H' ∧ H' tl = some (.lst (rV ts)) ∧ Tups H' ts (tiedL names.length M (tnOf r M) (bs.take i)))
      ⟨[], none, none, none, none, none, rfl, Fr.refl _ _, f12.at_ et11, ⟨rfl, fun i a b h => by simp at h⟩⟩ (fun i σ' H' _ ⟨_, _, _, _, _, _, _, f, _⟩ => SqL.of (f.kp _ _ ebl nbt)) ?_ ?_⟩
    · rintro i y σ' H13 hi ⟨ts, v6, v7, v8, v9, v10, rfl, f13, et13, tp13⟩
      obtain ⟨a, ha, rfl⟩ := of_rV hi
      obtain ⟨b, hb, hta⟩ := tps.at_ ha
      have hbm := List.mem_of_getElem? hb
      have hbi := (List.getElem?_eq_some_iff.mp hb).1
      obtain ⟨hgn, htn, hgv, htk, hgv2, htk2, _⟩ := Rs.bel b hbm
      refine ⟨a, _, rfl, SqT.of (f13.tp _ _ hta), rfl, _, _, rfl, _, _, rfl, _, _, rfl, _, _, rfl, _, _, rfl, rfl, ?_⟩
      have em13 := f13.kp _ _ em12 (nt em9)
      have ed13 := f13.kp _ _ ed12 (nt ed9)
      have ep13 := f13.kp _ _ ep12 npt
      have ek13 := f13.kp _ _ ek12 (nt ek9)
      refine Evl.q_when (b := inM M b) (Evl.et_and (Evl.et_test (ev_inN (Evl.ev_var rfl) (Evl.ev_var rfl) em13)) fun _ => Evl.et_test (ev_inN (Evl.ev_var rfl) (Evl.ev_var rfl) em13)) (fun hc H14 e14 => ?_) (fun hc H14 e14 => ?_)
      · refine ⟨ts, _, _, _, _, _, rfl, f13.trans (Fr.of_ex e14).nil, e14 _ _ et13, ?_⟩
        rw [tiedL_take hb, if_pos hc, List.append_nil]
        exact tp13.mono (Fr.of_ex e14)
      · have mulOk : ∀ {x k : Nat}, x < 2 ^ 100 → k ∈ M → CMulW (x : Int) (tnOf r M k : Int) := fun {x k} hx hk => mul_w (n := 100) (m := 10) hx (by have := ht6 k hk; show _ < 1024; omega) (by decide) (by decide) (by decide)
        refine Evl.q_cut (M := fun σ' H' => σ' = [some (.ref p), some (.ref h), some (.ref g), some (.ref m), some (.ref d), none, some (nV (if b.g ∈ M then nth M 0 else b.g)), some (nV b.t), some (nV (if b.g ∈ M then b.gv * tnOf r M b.g else b.gv)), some (nV b.tk), some (nV b.st)] ∧ Evl.Ex H13 H') ?_ ?_
        · refine Evl.s_when (b := decide (b.g ∈ M)) (Evl.et_test (ev_inN (Evl.ev_var rfl) (Evl.ev_var rfl) (e14 _ _ em13))) (fun hc H15 e15 => ?_) (fun hc H15 e15 => ?_)
          · have hgM := of_decide_eq_true hc
            have ex15 := e14.trans e15
            refine Evl.q_asg (Evl.ev_op (Evl.ev_var rfl) (ev_dget (v := fun x => nV (tnOf r M x)) (Evl.ev_var rfl) (Evl.ev_var rfl) (ex15 _ _ ed13) hgM) (Evl.rv_I (i := (b.gv : Int)) (j := (tnOf r M b.g : Int)) (mulOk hgv2 hgM))) (fun H16 e16 => ?_)
            refine Evl.s_asg (ev_fld (Evl.ev_var rfl) (e16 _ _ (ex15 _ _ ep13)) T.cl_Joint T.n_Joint_first (jF_first _ _ _ _ _)) (fun H17 e17 => ⟨?_, (ex15.trans e16).trans e17⟩)
            rw [if_pos hgM, if_pos hgM]
            show _ = [_, _, _, _, _, _, _, _, some (V.int ((b.gv * tnOf r M b.g : Nat) : Int)), _, _]
            rw [Int.natCast_mul]
            rfl
          · have hgM := of_decide_eq_false hc
            exact ⟨by rw [if_neg hgM, if_neg hgM]; rfl, e14.trans e15⟩
        · rintro σ6 H15 ⟨rfl, ex15⟩
          refine Evl.q_cut (M := fun σ' H' => σ' = [some (.ref p), some (.ref h), some (.ref g), some (.ref m), some (.ref d), none, some (nV (if b.g ∈ M then nth M 0 else b.g)), some (nV (if b.t ∈ M then nth M 0 else b.t)), some (nV (if b.g ∈ M then b.gv * tnOf r M b.g else b.gv)), some (nV (if b.t ∈ M then b.tk * tnOf r M b.t else b.tk)), some (nV b.st)] ∧ Evl.Ex H13 H') ?_ ?_
          · refine Evl.s_when (b := decide (b.t ∈ M)) (Evl.et_test (ev_inN (Evl.ev_var rfl) (Evl.ev_var rfl) (ex15 _ _ em13))) (fun hc H16 e16 => ?_) (fun hc H16 e16 => ?_)
            · have hgM := of_decide_eq_true hc
              have ex16 := ex15.trans e16
              refine Evl.q_asg (Evl.ev_op (Evl.ev_var rfl) (ev_dget (v := fun x => nV (tnOf r M x)) (Evl.ev_var rfl) (Evl.ev_var rfl) (ex16 _ _ ed13) hgM) (Evl.rv_I (i := (b.tk : Int)) (j := (tnOf r M b.t : Int)) (mulOk htk2 hgM))) (fun H17 e17 => ?_)
              refine Evl.s_asg (ev_fld (Evl.ev_var rfl) (e17 _ _ (ex16 _ _ ep13)) T.cl_Joint T.n_Joint_first (jF_first _ _ _ _ _)) (fun H18 e18 => ⟨?_, (ex16.trans e17).trans e18⟩)
              rw [if_pos hgM, if_pos hgM]
              show _ = [_, _, _, _, _, _, _, _, _, some (V.int ((b.tk * tnOf r M b.t : Nat) : Int)), _]
              rw [Int.natCast_mul]
              rfl
            · have hgM := of_decide_eq_false hc
              exact ⟨by rw [if_neg hgM, if_neg hgM], ex15.trans e16⟩
          · rintro σ7 H16 ⟨rfl, ex16⟩
            have hgk : (if b.g ∈ M then nth M 0 else b.g) ∈ keptL names.length M := by
              by_cases z : b.g ∈ M
              · rw [if_pos z]; exact first_kept hMd hMne hMlt
              · rw [if_neg z]; exact other_kept hgn z
            have htk' : (if b.t ∈ M then nth M 0 else b.t) ∈ keptL names.length M := by
              by_cases z : b.t ∈ M
              · rw [if_pos z]; exact first_kept hMd hMne hMlt
              · rw [if_neg z]; exact other_kept htn z
            have ep16 := ex16 _ _ ep13
            have ek16 := ex16 _ _ ek13
            have et16 := ex16 _ _ et13
            refine ⟨_, rfl, p, _, dx, _, _, rfl, ep16, T.cl_Joint, T.n_Joint_tied, jF_tied _ _ _ _ _, .inl ⟨rfl, _, SqL.of et16⟩, ?_⟩
            refine ⟨_, rfl, p, _, dx, _, _, rfl, ep16, T.cl_Joint, T.n_Joint_kept, jF_kept _ _ _ _ _, .inl ⟨rfl, _, SqL.of ek16⟩, _, rfl, kl, _, _, _, _, rfl, rfl, SqL.of ek16, rfl, flat_nVs _, nVs_at (at_idx hgk), eqV_self _, no_before, ?_⟩
            refine ⟨_, rfl, p, _, dx, _, _, rfl, ep16, T.cl_Joint, T.n_Joint_kept, jF_kept _ _ _ _ _, .inl ⟨rfl, _, SqL.of ek16⟩, _, rfl, kl, _, _, _, _, rfl, rfl, SqL.of ek16, rfl, flat_nVs _, nVs_at (at_idx htk'), eqV_self _, no_before, ?_⟩
            refine ⟨_, rfl, _, rfl, _, rfl, small_line (by show 5 ≤ 100000; omega), fun t ht => ?_⟩
            have et17 : (upd H16 t (.tup (bV (tieB (keptL names.length M) M (tnOf r M) b)))) t = some (.tup (bV (tieB (keptL names.length M) M (tnOf r M) b))) := upd_same
            have f17 : Fr [] H16 (upd H16 t (.tup (bV (tieB (keptL names.length M) M (tnOf r M) b)))) := Fr.n0 ht
            have etl17 := f17.at_ et16
            have hts : ts.length ≤ bs.length := by
              rw [tp13.1]
              unfold tiedL
              rw [List.length_map]
              exact Nat.le_trans (List.length_filter_le _ _) (by rw [List.length_take]; omega)
            have hbl50 := O.bl
            refine ⟨tl, _, _, rfl, rfl, etl17, by rw [rV_len]; exact small_line' (by omega), ?_⟩
            have F17 : Fr [tl] H12 (upd H16 t (.tup (bV (tieB (keptL names.length M) M (tnOf r M) b)))) := (f13.trans (Fr.of_ex ex16).nil).trans f17.nil
            refine ⟨ts ++ [t], _, _, _, _, _, rfl, F17.mutL (.inl (by simp)) etl17, ?_, ?_⟩
            · rw [upd_same]
              unfold rV
              rw [List.map_append]
              rfl
            · rw [tiedL_take hb, if_neg (c := inM M b = true) (by rw [hc]; decide)]
              have tp16 := (tp13.mono (Fr.of_ex ex16)).mono f17
              have fl : Fr [tl] (upd H16 t (.tup (bV (tieB (keptL names.length M) M (tnOf r M) b)))) (upd (upd H16 t (.tup (bV (tieB (keptL names.length M) M (tnOf r M) b)))) tl (.lst (rV ts ++ [.ref t]))) := (Fr.refl _ _).mutL (.inl (by simp)) etl17
              exact (tp16.mono fl).snoc (fl.tp _ _ et17)
    · rintro σ' H13 ⟨ts, v6, v7, v8, v9, v10, rfl, f13, et13, tp13⟩
      rw [rV_len, tps.1, List.take_length] at tp13
      refine q M row wl kl cl tl H13 hM hMs hrow ⟨⟨dx, f13.kp _ _ ep12 npt⟩, f13.kp _ _ (f12.at_ ew11) (nt ew9), f13.kp _ _ ek12 (nt ek9), f13.kp _ _ (f12.at_ ec11) (nt ec9), ⟨ts, et13, tp13⟩⟩ hwl0 hkl0 hcl0 htl0 ((((F11.trans f12.nil).mono (S' := [p, tl]) fun b hb => by simp at hb; simp [hb]).trans (f13.mono fun b hb => by simp at hb; simp [hb])).shrink fun b hb => ?_)
      simp at hb
      rcases hb with z | z
      · exact .inl (by simp [z])
      · exact .inr (by rw [z]; exact htl0)
/-! ### made -/
def spMade (K : PySem.W.Frag) : Sp := fun vs H Q _ => ∃ (p wl kl cl tl : Addr) (names : List Str) (bs : List Belt) (M row : List Nat) (tn : Nat → Nat), vs = [.ref p] ∧ JointAt K H p wl kl cl tl names bs M row tn ∧ HallOk (calledL names M) (tiedL names.length M tn bs) ∧
  ∀ (h k1 k2 : Addr) (H' : Hp), H h = none → H k1 = none → H k2 = none → HallAt K H' h k1 k2 (calledL names M) (tiedL names.length M tn bs) → Fr [] H H' → Q (.ref h) H'
theorem sc_Joint_made : FnScope ["self", "hall", "name", "giver", "taker", "give", "take", "start"] ["self"] (defScope s_Joint_made) := ⟨rfl, rfl, rfl, by decide +kernel, rfl, by decide +kernel, by decide +kernel⟩
theorem take_memS {α : Type} {M : List α} {i : Nat} {x : α} (h : M[i]? = some x) : M.take (i + 1) = M.take i ++ [x] := by
  rw [List.take_add_one, h]
  rfl
theorem not_takeS {α : Type} {M : List α} {i : Nat} {x : α} (hd : M.Nodup) (h : M[i]? = some x) : x ∉ M.take i := fun hx => by
  obtain ⟨j, hj⟩ := List.getElem?_of_mem hx
  have hjl := (List.getElem?_eq_some_iff.mp hj).1
  rw [List.length_take] at hjl
  rw [List.getElem?_take, if_pos (by omega)] at hj
  obtain ⟨a1, a2⟩ := List.getElem?_eq_some_iff.mp hj
  obtain ⟨b1, b2⟩ := List.getElem?_eq_some_iff.mp h
  have := List.pairwise_iff_getElem.mp hd j i a1 b1 (by omega)
  exact this (a2.trans b2.symm)
theorem ok_Joint_made (T : Tx K mg) : Okf P w K mg base 3 (He.ma K (He.ga K "Joint") "made") ["self"] (spMade K) := by
  obtain ⟨fI, GI, kI, bI⟩ := ok_Hall_init (P := P) (w := w) (base := base) T
  obtain ⟨fW, GW, kW, bW⟩ := ok_Hall_work (P := P) (w := w) (base := base) T
  obtain ⟨fL, GL, kL, bL, bL0⟩ := ok_Hall_belt (P := P) (w := w) (base := base) T
  refine okf_of T.df_Joint_made sc_Joint_made (fun _ _ _ _ _ _ us hl => match us, hl with | [_], _ => rfl) (fun vs H Q E h => ?_) (fun cdv A outer s H vs Q E hr h => ?_)
  · obtain ⟨p, wl, kl, cl, tl, names, bs, M, row, tn, rfl, _⟩ := h
    rfl
  · obtain ⟨p, wl, kl, cl, tl, names, bs, M, row, tn, rfl, J0, O, q⟩ := h
    refine ⟨_, pss_cons (ps_set (i := 1) sc_Joint_made.nd rfl (.inl rfl) (pe_make0 T.mk_Hall GI hr (by rfl) T.g_Hall bI .nil pass0))
      (pss_cons (ps_for PassesOwn.never rfl (pi_list (pe_fld (pv 0) rfl)) (pg_name (i := 2) sc_Joint_made.nd rfl (.inl rfl))
        (pss_one (ps_expr (pe_meth (pv 1) T.cl_Hall T.m_Hall_work GW hr bW .nil pass0 (pa_cons (pv 2) pa_nil)))))
      (pss_cons (ps_for PassesOwn.never rfl (pi_list (pe_fld (pv 0) rfl))
          (pg_tup rfl (pgs_cons (pg_name (i := 3) sc_Joint_made.nd rfl (.inl rfl)) (pgs_cons (pg_name (i := 4) sc_Joint_made.nd rfl (.inl rfl)) (pgs_cons (pg_name (i := 5) sc_Joint_made.nd rfl (.inl rfl)) (pgs_cons (pg_name (i := 6) sc_Joint_made.nd rfl (.inl rfl)) (pgs_cons (pg_name (i := 7) sc_Joint_made.nd rfl (.inl rfl)) pgs_nil))))))
        (pss_one (ps_expr (pe_meth (pv 1) T.cl_Hall T.m_Hall_belt GL hr bL .nil pass0 (pa_cons (pv 3) (pa_cons (pv 4) (pa_cons (pv 5) (pa_cons (pv 6) (pa_cons (pv 7) pa_nil)))))))))
      (pss_one (ps_ret (pv 1))))), ?_⟩
    have nW : ∀ a b, (hF a b).lookup ("work" : Str) = none := fun a b => hF_no _ _ (by decide +kernel) (by decide +kernel)
    have nL : ∀ a b, (hF a b).lookup ("belt" : Str) = none := fun a b => hF_no _ _ (by decide +kernel) (by decide +kernel)
    intro hh dxp hp hdxp hne
    have g1 : Fr [] H (upd (upd H dxp (.own hh)) hh (.ins (He.ga K "Hall") dxp [])) := (Fr.n0 hdxp).new (by rw [upd_ne hne.symm]; exact hp)
    have ep : (upd (upd H dxp (.own hh)) hh (.ins (He.ga K "Hall") dxp [])) hh = some (.ins (He.ga K "Hall") dxp []) := upd_same
    generalize upd (upd H dxp (.own hh)) hh (.ins (He.ga K "Hall") dxp []) = H2 at g1 ep ⊢
    refine ⟨hh, dxp, rfl, ep, fun H3 k1 k2 hk1 hk2 A3 f3 => ⟨rfl, ?_⟩⟩
    have hk10 := g1.free hk1
    have hk20 := g1.free hk2
    have nk : ∀ {a : Addr} {u : HO}, H a = some u → a ∉ [hh, k1, k2] := fun {a u} e => by
      have n0 : a ≠ hh := ne_of_none e hp
      have n1 : a ≠ k1 := ne_of_none e hk10
      have n2 : a ≠ k2 := ne_of_none e hk20
      simp [n0, n1, n2]
    have F3 : Fr [hh, k1, k2] H H3 := g1.nil.trans (f3.mono fun b hb => by simp at hb; simp [hb])
    have J : ∀ {H' : Hp}, Fr [hh, k1, k2] H H' → JointAt K H' p wl kl cl tl names bs M row tn := fun {H'} f => by
      obtain ⟨dx, e⟩ := J0.ob
      obtain ⟨as, e2, _⟩ := J0.t
      exact J0.kept f (nk e) (nk J0.w) (nk J0.k) (nk J0.c) (nk e2)
    obtain ⟨dx, eq3⟩ := (J F3).ob
    have hCl := O.le
    refine ⟨_, rfl, p, _, dx, _, _, rfl, eq3, T.cl_Joint, T.n_Joint_called, jF_called _ _ _ _ _, cl, rfl, ⟨_, SqL.of (J F3).c⟩, for_list (K := K) (a := cl) (xs := (calledL names M).map V.str) (fun i σ' H' => ∃ v2 : Option V, σ' = [some (.ref p), some (.ref hh), v2, none, none, none, none, none] ∧ Fr [hh, k1, k2] H H' ∧ HallAt K H' hh k1 k2 ((calledL names M).take i) [])
      ⟨none, rfl, F3, A3⟩ (fun i σ' H' _ ⟨_, _, f, _⟩ => SqL.of (J f).c) ?_ ?_⟩
    · rintro i y σ' H4 hi ⟨v2, rfl, f4, A4⟩
      obtain ⟨x, hx, rfl⟩ : ∃ x, (calledL names M)[i]? = some x ∧ y = .str x := by
        rw [List.getElem?_map] at hi
        cases e : (calledL names M)[i]? with
        | none => rw [e] at hi; cases hi
        | some x => rw [e] at hi; exact ⟨x, rfl, (Option.some.inj hi).symm⟩
      have hil := (List.getElem?_eq_some_iff.mp hx).1
      obtain ⟨dx4, ep4⟩ := A4.ob
      refine ⟨_, rfl, hh, dx4, _, rfl, ep4, nW _ _, _, rfl, hh, k1, k2, _, _, x, rfl, A4, O.isn _ (List.mem_of_getElem? hx), not_takeS O.nd hx, by rw [List.length_take]; omega, fun H5 A5 f5 => ?_⟩
      refine ⟨_, rfl, f4.trans (f5.mono fun b hb => by simp at hb; simp [hb]), ?_⟩
      rw [take_memS hx]
      exact A5
    · rintro σ' H4 ⟨v2, rfl, f4, A4⟩
      rw [List.length_map, List.take_length] at A4
      obtain ⟨dx4, eq4⟩ := (J f4).ob
      obtain ⟨as, etl, tps⟩ := (J f4).t
      have ntl : tl ∉ [k1, k2] := by
        obtain ⟨as2, e2, _⟩ := J0.t
        have := nk e2
        simp at this
        simp [this]
      refine ⟨_, rfl, p, _, dx4, _, _, rfl, eq4, T.cl_Joint, T.n_Joint_tied, jF_tied _ _ _ _ _, tl, rfl, ⟨_, SqL.of etl⟩, for_list (K := K) (a := tl) (xs := rV as) (fun i σ' H' => ∃ (v2 v3 v4 v5 v6 v7 : Option V), σ' = [some (.ref p), some (.ref hh), v2, v3, v4, v5, v6, v7] ∧ Fr [k1, k2] H4 H' ∧ HallAt K H' hh k1 k2 (calledL names M) ((tiedL names.length M tn bs).take i))
        ⟨_, _, _, _, _, _, rfl, Fr.refl _ _, A4⟩ (fun i σ' H' _ ⟨_, _, _, _, _, _, _, f, _⟩ => SqL.of (f.kp _ _ etl ntl)) ?_ ?_⟩
      · rintro i y σ' H6 hi ⟨v2, v3, v4, v5, v6, v7, rfl, f6, A6⟩
        obtain ⟨a, ha, rfl⟩ := of_rV hi
        obtain ⟨b, hb, hta⟩ := tps.at_ ha
        have hbm := List.mem_of_getElem? hb
        have hbi := (List.getElem?_eq_some_iff.mp hb).1
        obtain ⟨dx6, ep6⟩ := A6.ob
        have hbl := O.bl
        refine ⟨a, _, rfl, SqT.of (f6.tp _ _ hta), rfl, _, _, rfl, _, _, rfl, _, _, rfl, _, _, rfl, _, _, rfl, rfl, _, rfl, hh, dx6, _, rfl, ep6, nL _ _, _, rfl, _, rfl, _, rfl, _, rfl, _, rfl, hh, k1, k2, _, _, b, rfl, A6, (O.wi b hbm).1, (O.wi b hbm).2, (O.ps b hbm).1, (O.ps b hbm).2, by rw [List.length_take]; omega, fun H8 A8 f8 => ?_⟩
        refine ⟨_, _, _, _, _, _, rfl, f6.trans (f8.mono fun z hz => by simp at hz; simp [hz]), ?_⟩
        rw [take_memS hb]
        exact A8
      · rintro σ' H6 ⟨v2, v3, v4, v5, v6, v7, rfl, f6, A6⟩
        rw [rV_len, tps.1, List.take_length] at A6
        refine ⟨_, rfl, q hh k1 k2 H6 hp hk10 hk20 A6 ((f4.trans (f6.mono fun b hb => by simp at hb; simp [hb])).shrink fun b hb => ?_)⟩
        simp at hb
        rcases hb with z | z | z
        · exact .inr (by rw [z]; exact hp)
        · exact .inr (by rw [z]; exact hk10)
        · exact .inr (by rw [z]; exact hk20)
/-! ### place, inner, unfolded -/
def spPlace (K : PySem.W.Frag) : Sp := fun vs H Q _ => ∃ (p wl kl cl tl : Addr) (names : List Str) (bs : List Belt) (M row : List Nat) (tn : Nat → Nat), vs = [.ref p] ∧ JointAt K H p wl kl cl tl names bs M row tn ∧ Q (nV (nth M 0)) H
theorem sc_Joint_place : FnScope ["self"] ["self"] (defScope s_Joint_place) := ⟨rfl, rfl, rfl, by decide +kernel, rfl, by decide +kernel, by decide +kernel⟩
theorem ok_Joint_place (T : Tx K mg) : Okf P w K mg base 1 (He.ma K (He.ga K "Joint") "place") ["self"] (spPlace K) := by
  refine okf_of T.df_Joint_place sc_Joint_place (fun _ _ _ _ _ _ us hl => match us, hl with | [_], _ => rfl) (fun vs H Q E h => ?_) (fun cdv A outer s H vs Q E hr h => ?_)
  · obtain ⟨p, wl, kl, cl, tl, names, bs, M, row, tn, rfl, _⟩ := h
    rfl
  · obtain ⟨p, wl, kl, cl, tl, names, bs, M, row, tn, rfl, J0, q⟩ := h
    obtain ⟨dx, ep⟩ := J0.ob
    exact ⟨_, pss_one (ps_ret (pe_fld (pv 0) rfl)), ⟨_, rfl, p, _, dx, _, _, rfl, ep, T.cl_Joint, T.n_Joint_first, jF_first _ _ _ _ _, q⟩⟩
def spInnerOf (K : PySem.W.Frag) : Sp := fun vs H Q _ => ∃ (p wl kl cl tl : Addr) (names : List Str) (bs : List Belt) (M row : List Nat) (tn : Nat → Nat), vs = [.ref p] ∧ JointAt K H p wl kl cl tl names bs M row tn ∧ RL (nVs row) H Q
theorem sc_Joint_inner : FnScope ["self"] ["self"] (defScope s_Joint_inner) := ⟨rfl, rfl, rfl, by decide +kernel, rfl, by decide +kernel, by decide +kernel⟩
theorem ok_Joint_inner (T : Tx K mg) : Okf P w K mg base 1 (He.ma K (He.ga K "Joint") "inner") ["self"] (spInnerOf K) := by
  refine okf_of T.df_Joint_inner sc_Joint_inner (fun _ _ _ _ _ _ us hl => match us, hl with | [_], _ => rfl) (fun vs H Q E h => ?_) (fun cdv A outer s H vs Q E hr h => ?_)
  · obtain ⟨p, wl, kl, cl, tl, names, bs, M, row, tn, rfl, _⟩ := h
    rfl
  · obtain ⟨p, wl, kl, cl, tl, names, bs, M, row, tn, rfl, J0, q⟩ := h
    obtain ⟨dx, ep⟩ := J0.ob
    refine ⟨_, pss_one (ps_ret (pe_callTy call_list_of (by rfl) T.b_list (by decide +kernel) (pa_cons (pe_fld (pv 0) rfl) pa_nil))), ?_⟩
    exact ⟨_, rfl, p, _, dx, _, _, rfl, ep, T.cl_Joint, T.n_Joint_within, jF_within _ _ _ _ _, wl, _, rfl, .inl (SqL.of J0.w), fun l hl => q l _ hl (Fr.n0 hl) upd_same⟩
/-- unfolded, of two turns of the joined work -/
def spUnfolded (K : PySem.W.Frag) : Sp := fun vs H Q _ => ∃ (p wl kl cl tl g : Addr) (names : List Str) (bs : List Belt) (M row : List Nat) (tn : Nat → Nat), vs = [.ref p, .ref g] ∧ JointAt K H p wl kl cl tl names bs M row tn ∧ H g = some (.lst [nV (nth M 0), nV (nth M 0)]) ∧ nth M 0 < (keptL names.length M).length ∧ row.length ≤ 1000 ∧
  RL (nVs (row ++ row)) H Q
theorem sc_Joint_unfolded : FnScope ["self", "row", "found", "work"] ["self", "row"] (defScope s_Joint_unfolded) := ⟨rfl, rfl, rfl, by decide +kernel, rfl, by decide +kernel, by decide +kernel⟩
theorem ok_Joint_unfolded (T : Tx K mg) : Okf P w K mg base 1 (He.ma K (He.ga K "Joint") "unfolded") ["self", "row"] (spUnfolded K) := by
  refine okf_of T.df_Joint_unfolded sc_Joint_unfolded (fun _ _ _ _ _ _ us hl => match us, hl with | [_, _], _ => rfl) (fun vs H Q E h => ?_) (fun cdv A outer s H vs Q E hr h => ?_)
  · obtain ⟨p, wl, kl, cl, tl, g, names, bs, M, row, tn, rfl, _⟩ := h
    rfl
  · obtain ⟨p, wl, kl, cl, tl, g, names, bs, M, row, tn, rfl, J0, hg, hpl, hrow, q⟩ := h
    refine ⟨_, pss_cons (ps_set (i := 2) sc_Joint_unfolded.nd rfl (.inl rfl) (pe_lst pa_nil))
      (pss_cons (ps_for PassesOwn.never rfl (pi_list (pv 1)) (pg_name (i := 3) sc_Joint_unfolded.nd rfl (.inl rfl))
        (pss_cons (ps_if (pt_not (pt_chain op_le op_lt pe_int (pv 3) (pe_callB call_len_seq (by rfl) T.b_len PySem.boot_len (pa_cons (pe_fld (pv 0) rfl) pa_nil)))) pss_never pss_nil)
        (pss_one (ps_if (pt_cmpR op_eq (pv 3) (pe_fld (pv 0) rfl) (nomark _)) (pss_one (ps_expr (pe_bm PySem.F.plainAttrs_list PySem.F.slot_list_extend PySem.F.type_list_extend mt_extend (pv 2) (pa_cons (pe_fld (pv 0) rfl) pa_nil)))) pss_no))))
      (pss_one (ps_ret (pv 2)))), ?_⟩
    refine ⟨Nat.zero_le _, fun fd hfd => ?_⟩
    have f1 : Fr [] H (upd H fd (.lst [])) := Fr.n0 hfd
    have ef : (upd H fd (.lst [])) fd = some (.lst (nVs [])) := upd_same
    have nf : ∀ {a : Addr} {u : HO}, H a = some u → a ∉ [fd] := fun {a u} e => by
      have := ne_of_none e hfd
      simpa using this
    generalize upd H fd (.lst []) = H1 at f1 ef ⊢
    have J : ∀ {H' : Hp}, Fr [fd] H H' → JointAt K H' p wl kl cl tl names bs M row tn := fun {H'} f => by
      obtain ⟨dx, e⟩ := J0.ob
      obtain ⟨as, e2, _⟩ := J0.t
      exact J0.kept f (nf e) (nf J0.w) (nf J0.k) (nf J0.c) (nf e2)
    refine ⟨_, rfl, g, rfl, ⟨_, SqL.of (f1.at_ hg)⟩, for_list (K := K) (a := g) (xs := [nV (nth M 0), nV (nth M 0)]) (fun i σ' H' => ∃ (v3 : Option V) (rs : List Nat), σ' = [some (.ref p), some (.ref g), some (.ref fd), v3] ∧ Fr [fd] H H' ∧ H' fd = some (.lst (nVs rs)) ∧ rs = (if i = 0 then [] else if i = 1 then row else row ++ row))
      ⟨none, [], rfl, f1.nil, ef, rfl⟩ (fun i σ' H' _ ⟨_, _, _, f, _⟩ => SqL.of (f.kp _ _ hg (nf hg))) ?_ ?_⟩
    · rintro i y σ' H2 hi ⟨v3, rs, rfl, f2, e2, hrs⟩
      have hil := (List.getElem?_eq_some_iff.mp hi).1
      have ey : y = nV (nth M 0) := by
        match i, hi with
        | 0, hi => exact (Option.some.inj hi).symm
        | 1, hi => exact (Option.some.inj hi).symm
        | i + 2, hi => simp at hi
      subst ey
      obtain ⟨dx, ep⟩ := (J f2).ob
      refine ⟨_, rfl, _, _, rfl, rfl, _, rfl, ?_⟩
      show if decide ((0 : Int) ≤ (nth M 0 : Int)) = true then _ else _
      rw [le_nat]
      refine iteT ?_
      refine ⟨_, rfl, p, _, dx, _, _, rfl, ep, T.cl_Joint, T.n_Joint_kept, jF_kept _ _ _ _ _, kl, _, rfl, .inl (SqL.of (J f2).k), _, _, rfl, rfl, _, rfl, ?_⟩
      have e5 : decide ((nth M 0 : Int) < ((nVs (keptL names.length M)).length : Int)) = true := decide_eq_true (by rw [nVs_len]; omega)
      show if (!decide ((nth M 0 : Int) < ((nVs (keptL names.length M)).length : Int))) = true then _ else _
      rw [e5]
      refine iteF ?_
      refine ⟨_, rfl, _, rfl, p, _, dx, _, _, rfl, ep, T.cl_Joint, T.n_Joint_first, jF_first _ _ _ _ _, rfl, _, rfl, ?_⟩
      show if decide (nV (nth M 0) = nV (nth M 0)) = true then _ else _
      rw [if_pos (by simp)]
      have hsz : rs.length ≤ 2000 := by
        rw [hrs]
        by_cases z : i = 0
        · rw [if_pos z]; simp
        · rw [if_neg z]
          by_cases z2 : i = 1
          · rw [if_pos z2]; omega
          · rw [if_neg z2, List.length_append]; omega
      refine ⟨_, rfl, .inl ⟨rfl, _, SqL.of e2⟩, _, rfl, p, _, dx, _, _, rfl, ep, T.cl_Joint, T.n_Joint_within, jF_within _ _ _ _ _, fd, wl, _, _, rfl, rfl, e2, (J f2).w, by rw [nVs_len, nVs_len]; exact small_line (by omega), ?_⟩
      refine ⟨_, rs ++ row, rfl, f2.mutL (.inl (by simp)) e2, by rw [upd_same, nVs_app], ?_⟩
      rw [hrs]
      match i, hil with
      | 0, _ => rfl
      | 1, _ => rfl
      | i + 2, h => exact absurd (show i + 2 < 2 from h) (by omega)
    · rintro σ' H2 ⟨v3, rs, rfl, f2, e2, hrs⟩
      have : rs = row ++ row := hrs
      rw [this] at e2
      exact ⟨_, rfl, q fd H2 hfd (f2.shrink fun b hb => .inr (by rw [List.mem_singleton.mp hb]; exact hfd)) e2⟩
end
end RH
/-! The joined hall keeps its rates: the plain law. -/
namespace RH
open PySem PySem.Spec PyProof.Rows L2
theorem kept_nodup {n : Nat} {M : List Nat} : (keptL n M).Nodup := List.Pairwise.filter _ List.nodup_range
theorem idx_inj {xs : List Nat} {a b : Nat} (ha : a ∈ xs) (hb : b ∈ xs) (h : xs.idxOf a = xs.idxOf b) : a = b := by
  have h1 := at_idx ha
  have h2 := at_idx hb
  rw [h, h2] at h1
  exact (Option.some.inj h1).symm
theorem idx_at {xs : List Nat} (hd : xs.Nodup) {i x : Nat} (h : xs[i]? = some x) : xs.idxOf x = i := by
  have h1 := at_idx (List.mem_of_getElem? h)
  have hi := (List.getElem?_eq_some_iff.mp h1).1
  rw [← h] at h1
  exact (List.getElem?_inj hi hd).mp h1
/-- what is due: the rates of those kept, the group's common rate at its first -/
def dueL (n : Nat) (M r : List Nat) : List Nat := ((keptL n M).map (nth r)).set ((keptL n M).idxOf (nth M 0)) (gcdL (M.map (nth r)))
section
variable {n : Nat} {bs : List Belt} {r M : List Nat}
/-- of a group -/
structure Grp (n : Nat) (M : List Nat) : Prop where
  nd : M.Nodup
  ne : M ≠ []
  lt : ∀ x, x ∈ M → x < n
theorem Grp.f (G : Grp n M) : nth M 0 ∈ M := nth_mem (List.length_pos_iff.mpr G.ne)
theorem Grp.fk (G : Grp n M) : nth M 0 ∈ keptL n M := first_kept G.nd G.ne G.lt
theorem Grp.only (G : Grp n M) {x : Nat} (hx : x ∈ keptL n M) (h : x ∈ M) : x = nth M 0 := by
  have h2 := (mem_kept.mp hx).2
  cases M with
  | nil => exact absurd rfl G.ne
  | cons a rr =>
    rcases List.mem_cons.mp h with z | z
    · exact z
    · exact absurd z h2
theorem due_len : (dueL n M r).length = (keptL n M).length := by
  unfold dueL
  rw [List.length_set, List.length_map]
theorem due_first (G : Grp n M) : nth (dueL n M r) ((keptL n M).idxOf (nth M 0)) = gcdL (M.map (nth r)) := by
  unfold dueL
  exact nth_set_self (by rw [List.length_map]; exact idx_lt G.fk)
theorem due_other (G : Grp n M) {x : Nat} (hx : x < n) (h : x ∉ M) : nth (dueL n M r) ((keptL n M).idxOf x) = nth r x := by
  have hk := other_kept hx h
  unfold dueL
  rw [nth_set_ne fun e => h ((idx_inj G.fk hk e) ▸ G.f), nth_map (idx_lt hk), nth_of (at_idx hk)]
/-- where a work lies in the joined hall -/
def phi (n : Nat) (M : List Nat) (v : Nat) : Nat := (keptL n M).idxOf (if v ∈ M then nth M 0 else v)
theorem phi_kept (G : Grp n M) {v : Nat} (hv : v < n) : (if v ∈ M then nth M 0 else v) ∈ keptL n M := by
  by_cases z : v ∈ M
  · rw [if_pos z]; exact G.fk
  · rw [if_neg z]; exact other_kept hv z
theorem phi_conn (hw : Within n bs) {tn : Nat → Nat} {a b : Nat} (c : Conn bs a b) : Conn (tiedL n M tn bs) (phi n M a) (phi n M b) := by
  induction c with
  | refl => exact .refl _
  | step c e ih =>
    refine ih.trans ?_
    obtain ⟨b, hb, h⟩ := e
    have key : ∀ x y, ((b.g = x ∧ b.t = y) ∨ (b.t = x ∧ b.g = y)) → Conn (tiedL n M tn bs) (phi n M x) (phi n M y) := by
      intro x y hxy
      cases hi : inM M b with
      | true =>
        obtain ⟨h1, h2⟩ := Bool.and_eq_true_iff.mp hi
        have h1 := of_decide_eq_true h1
        have h2 := of_decide_eq_true h2
        have e1 : phi n M b.g = phi n M b.t := by
          unfold phi
          rw [if_pos h1, if_pos h2]
        rcases hxy with ⟨rfl, rfl⟩ | ⟨rfl, rfl⟩
        · rw [e1]; exact .refl _
        · rw [e1]; exact .refl _
      | false =>
        have hm : tieB (keptL n M) M tn b ∈ tiedL n M tn bs := List.mem_map_of_mem (List.mem_filter.mpr ⟨hb, by rw [hi]; rfl⟩)
        rcases hxy with ⟨rfl, rfl⟩ | ⟨rfl, rfl⟩
        · exact .one ⟨_, hm, .inl ⟨rfl, rfl⟩⟩
        · exact .one ⟨_, hm, .inr ⟨rfl, rfl⟩⟩
    exact key _ _ h
theorem due_phi (G : Grp n M) {v : Nat} (hv : v < n) : nth (dueL n M r) (phi n M v) ∣ nth r v := by
  unfold phi
  by_cases z : v ∈ M
  · rw [if_pos z, due_first G]
    exact gcdL_dvd (List.mem_map_of_mem z)
  · rw [if_neg z, due_other G hv z]
    exact Nat.dvd_refl _
theorem phi_at (G : Grp n M) {i : Nat} (hi : i < (keptL n M).length) : ∃ x, x < n ∧ (keptL n M)[i]? = some x ∧ phi n M x = i := by
  have h := List.getElem?_eq_getElem hi
  have hm := List.mem_of_getElem? h
  refine ⟨_, (mem_kept.mp hm).1, h, ?_⟩
  unfold phi
  by_cases z : (keptL n M)[i] ∈ M
  · rw [if_pos z, ← G.only hm z]
    exact idx_at kept_nodup h
  · rw [if_neg z]
    exact idx_at kept_nodup h
theorem of_tied {tn : Nat → Nat} {b : Belt} (h : b ∈ tiedL n M tn bs) : ∃ e, e ∈ bs ∧ b = tieB (keptL n M) M tn e := by
  obtain ⟨e, he, rfl⟩ := List.mem_map.mp h
  exact ⟨e, (List.mem_filter.mp he).1, rfl⟩
theorem joined_rts (B : Rts n bs r) (G : Grp n M) (hs : ∀ e, e ∈ bs → e.gv < 2 ^ 90 ∧ e.tk < 2 ^ 90) : Rts (keptL n M).length (tiedL n M (tnOf r M) bs) (dueL n M r) := by
  have hg0 : 0 < gcdL (M.map (nth r)) := gcdL_pos (List.mem_map_of_mem G.f) (B.pos _ (G.lt _ G.f))
  have hg6 : gcdL (M.map (nth r)) ≤ 6 := Nat.le_trans (Nat.le_of_dvd (B.pos _ (G.lt _ G.f)) (gcdL_dvd (List.mem_map_of_mem G.f))) (B.le6 _ (G.lt _ G.f))
  have hv : ∀ i, i < (keptL n M).length → 0 < nth (dueL n M r) i ∧ nth (dueL n M r) i ≤ 6 := fun i hi => by
    obtain ⟨x, hx, _, e⟩ := phi_at G hi
    rw [← e]
    unfold phi
    by_cases z : x ∈ M
    · rw [if_pos z, due_first G]
      exact ⟨hg0, hg6⟩
    · rw [if_neg z, due_other G hx z]
      exact ⟨B.pos x hx, B.le6 x hx⟩
  have big : ∀ {a k : Nat}, a < 2 ^ 90 → k ≤ 6 → a * k < 2 ^ 100 := fun {a k} ha hk => Nat.lt_of_le_of_lt (Nat.mul_le_mul (Nat.le_of_lt ha) hk) (by decide)
  have big0 : ∀ {a : Nat}, a < 2 ^ 90 → a < 2 ^ 100 := fun {a} ha => Nat.lt_of_lt_of_le ha (by decide)
  refine ⟨⟨due_len, fun i hi => (hv i hi).1, fun i hi => (hv i hi).2, fun b hb => ?_, fun b hb => ?_⟩, fun i hi d hd => ?_⟩
  · obtain ⟨e, he, rfl⟩ := of_tied hb
    obtain ⟨h1, h2, h3, h4, h5, h6, h7⟩ := B.bel e he
    obtain ⟨s1, s2⟩ := hs e he
    refine ⟨idx_lt (phi_kept G h1), idx_lt (phi_kept G h2), ?_, ?_, ?_, ?_, h7⟩
    · show 0 < if e.g ∈ M then e.gv * tnOf r M e.g else e.gv
      by_cases z : e.g ∈ M
      · rw [if_pos z]; exact Nat.mul_pos h3 (tnOf_le B G.lt z).2.1
      · rw [if_neg z]; exact h3
    · show 0 < if e.t ∈ M then e.tk * tnOf r M e.t else e.tk
      by_cases z : e.t ∈ M
      · rw [if_pos z]; exact Nat.mul_pos h4 (tnOf_le B G.lt z).2.1
      · rw [if_neg z]; exact h4
    · show (if e.g ∈ M then e.gv * tnOf r M e.g else e.gv) < 2 ^ 100
      by_cases z : e.g ∈ M
      · rw [if_pos z]; exact big s1 (Nat.le_trans (tnOf_le B G.lt z).1 (B.le6 _ h1))
      · rw [if_neg z]; exact big0 s1
    · show (if e.t ∈ M then e.tk * tnOf r M e.t else e.tk) < 2 ^ 100
      by_cases z : e.t ∈ M
      · rw [if_pos z]; exact big s2 (Nat.le_trans (tnOf_le B G.lt z).1 (B.le6 _ h2))
      · rw [if_neg z]; exact big0 s2
  · obtain ⟨e, he, rfl⟩ := of_tied hb
    obtain ⟨h1, h2, _⟩ := B.bel e he
    have half : ∀ x a, x < n → (if x ∈ M then a * tnOf r M x else a) * nth (dueL n M r) ((keptL n M).idxOf (if x ∈ M then nth M 0 else x)) = a * nth r x := fun x a hx => by
      by_cases z : x ∈ M
      · rw [if_pos z, if_pos z, due_first G, Nat.mul_assoc, (tnOf_le B G.lt z).2.2]
      · rw [if_neg z, if_neg z, due_other G hx z]
    show (if e.g ∈ M then e.gv * tnOf r M e.g else e.gv) * nth (dueL n M r) ((keptL n M).idxOf (if e.g ∈ M then nth M 0 else e.g)) = (if e.t ∈ M then e.tk * tnOf r M e.t else e.tk) * nth (dueL n M r) ((keptL n M).idxOf (if e.t ∈ M then nth M 0 else e.t))
    rw [half _ _ h1, half _ _ h2]
    exact B.bal e he
  · obtain ⟨x, hx, _, e⟩ := phi_at G hi
    have hw : Within n bs := fun e he => ⟨(B.bel e he).1, (B.bel e he).2.1⟩
    refine B.prim x hx d fun v hv2 hc => ?_
    have h1 := phi_conn (M := M) (tn := tnOf r M) hw hc
    rw [e] at h1
    exact Nat.dvd_trans (hd _ (idx_lt (phi_kept G hv2)) h1) (due_phi G hv2)
/-- the joined work's number is the group's least -/
theorem range_idx {p : Nat → Bool} {m : Nat} : ∀ {n : Nat}, m < n → (∀ x, x < m → p x = true) → p m = true → ((List.range n).filter p).idxOf m = m := by
  intro n hn hp hm
  obtain ⟨k, rfl⟩ : ∃ k, n = m + 1 + k := ⟨n - (m + 1), by omega⟩
  have e1 : (List.range (m + 1 + k)) = List.range m ++ (m :: (List.range k).map (fun x => m + 1 + x)) := by
    rw [List.range_add, List.range_succ, List.append_assoc]
    rfl
  rw [e1, List.filter_append, List.filter_eq_self.mpr fun x hx => hp x (List.mem_range.mp hx), List.filter_cons_of_pos hm]
  refine idx_at ?_ ?_
  · rw [← List.filter_cons_of_pos hm, ← List.filter_eq_self.mpr fun x hx => hp x (List.mem_range.mp hx), ← List.filter_append, ← e1]
    exact List.Pairwise.filter _ List.nodup_range
  · rw [List.getElem?_append_right (by rw [List.length_range]; exact Nat.le_refl _), List.length_range, Nat.sub_self]
    rfl
theorem place_eq (G : Grp n M) (hs : M.Pairwise (· < ·)) : (keptL n M).idxOf (nth M 0) = nth M 0 := by
  unfold keptL
  refine range_idx (G.lt _ G.f) (fun x hx => ?_) ?_
  · cases M with
    | nil => exact absurd rfl G.ne
    | cons a rr =>
      have : x ∉ rr := fun h => by
        have h1 := (List.pairwise_cons.mp hs).1 x h
        have h2 : x < a := hx
        omega
      simpa using this
  · have := (mem_kept.mp G.fk).2
    simpa using this
end
theorem joined_ok {names : List Str} {bs : List Belt} {M r : List Nat} (O : HallOk names bs) (B : Rts names.length bs r) (G : Grp names.length M) : HallOk (calledL names M) (tiedL names.length M (tnOf r M) bs) := by
  have hl : (calledL names M).length = (keptL names.length M).length := by unfold calledL; rw [List.length_map]
  refine ⟨fun x hx => ?_, ?_, ?_, fun b hb => ?_, fun b hb => ?_, ?_⟩
  · obtain ⟨k, hk, rfl⟩ := List.mem_map.mp hx
    exact O.isn _ (nmS_mem (mem_kept.mp hk).1)
  · unfold calledL
    refine List.Pairwise.map _ (fun a b h => h) ?_
    refine (List.pairwise_iff_getElem.mpr fun i j hi hj hij e => ?_)
    have h1 := (mem_kept.mp (List.getElem_mem hi)).1
    have h2 := (mem_kept.mp (List.getElem_mem hj)).1
    have := nmS_inj O.nd h1 h2 e
    exact List.pairwise_iff_getElem.mp (kept_nodup (n := names.length) (M := M)) i j hi hj hij this
  · rw [hl]
    exact Nat.le_trans kept_len O.le
  · obtain ⟨e, he, rfl⟩ := of_tied hb
    obtain ⟨h1, h2, _⟩ := B.bel e he
    rw [hl]
    exact ⟨idx_lt (phi_kept G h1), idx_lt (phi_kept G h2)⟩
  · obtain ⟨e, he, rfl⟩ := of_tied hb
    obtain ⟨h1, h2, h3, h4, _⟩ := B.bel e he
    refine ⟨?_, ?_⟩
    · show 0 < if e.g ∈ M then e.gv * tnOf r M e.g else e.gv
      by_cases z : e.g ∈ M
      · rw [if_pos z]; exact Nat.mul_pos h3 (tnOf_le B G.lt z).2.1
      · rw [if_neg z]; exact h3
    · show 0 < if e.t ∈ M then e.tk * tnOf r M e.t else e.tk
      by_cases z : e.t ∈ M
      · rw [if_pos z]; exact Nat.mul_pos h4 (tnOf_le B G.lt z).2.1
      · rw [if_neg z]; exact h4
  · unfold tiedL
    rw [List.length_map]
    exact Nat.le_trans (List.length_filter_le _ _) O.bl
end RH
/-! The law's helpers: cells, belts, groups. -/
namespace RH
open PySem PySem.Spec PyProof.Rows L2
/-! ### bits -/
theorem bits_small {z : Int} {n : Nat} (h : z.natAbs < 2 ^ n) : Builtin.Int.intBits z ≤ n := by
  unfold Builtin.Int.intBits
  by_cases e : z = 0
  · rw [if_pos (by simp [e])]; omega
  · rw [if_neg (by simpa using e)]
    cases n with
    | zero => simp at h; exact absurd h e
    | succ n =>
      have := log2_small h (Nat.succ_pos n)
      omega
theorem cb {i j : Int} (hi : Builtin.Int.intBits i ≤ 60000000) (hj : Builtin.Int.intBits j ≤ 60000000) : CBits i j := by
  unfold CBits
  omega
def Wide (z : Int) : Prop := Builtin.Int.intBits z ≤ 1048576
theorem Wide.cb {z j : Int} {n : Nat} (h : Wide z) (hj : j.natAbs < 2 ^ n) (hn : n ≤ 1000) : CBits z j := RH.cb (Nat.le_trans h (by decide)) (Nat.le_trans (bits_small hj) (by omega))
/-! ### numbers at work -/
section
open Evl
variable {σ : L2.St} {H : Hp} {ta tb : TE} {a b : Nat}
theorem lt1000 {a : Nat} (h : a < 2 ^ 200) : ((a : Nat) : Int).natAbs < 2 ^ 200 := by rw [Int.natAbs_natCast]; exact h
theorem ev_modN (h1 : Ev ta σ H (nV a)) (h2 : Ev tb σ H (nV b)) (hb : 0 < b) : Ev (tOp (rI (fun _ j => 0 < j) fun i j => .int (i % j)) ta tb) σ H (nV (a % b)) :=
  ev_is (ev_op h1 h2 (rv_I (i := (a : Int)) (j := (b : Int)) (by show (0 : Int) < (b : Int); omega))) (congrArg V.int (nat_emod a b))
theorem ev_divN (h1 : Ev ta σ H (nV a)) (h2 : Ev tb σ H (nV b)) (hb : 0 < b) (hb2 : b < 2 ^ 200) : Ev (tOp (rI CDivW fun i j => .int (i / j)) ta tb) σ H (nV (a / b)) :=
  ev_is (ev_op h1 h2 (rv_I (i := (a : Int)) (j := (b : Int)) (div_w hb hb2 (by decide) (by decide)))) (congrArg V.int (nat_ediv a b))
theorem ev_mulN (h1 : Ev ta σ H (nV a)) (h2 : Ev tb σ H (nV b)) (ha : a < 2 ^ 200) (hb : b < 2 ^ 200) : Ev (tOp (rI CBits fun i j => .int (i * j)) ta tb) σ H (nV (a * b)) :=
  ev_is (ev_op h1 h2 (rv_I (i := (a : Int)) (j := (b : Int)) (cb (Nat.le_trans (bits_small (lt1000 ha)) (by decide)) (Nat.le_trans (bits_small (lt1000 hb)) (by decide))))) (congrArg V.int (Int.natCast_mul a b).symm)
theorem ev_addN (h1 : Ev ta σ H (nV a)) (h2 : Ev tb σ H (nV b)) : Ev (tOp (rI0 fun i j => .int (i + j)) ta tb) σ H (nV (a + b)) :=
  ev_is (ev_add h1 h2) (congrArg V.int (Int.natCast_add a b).symm)
theorem ev_ixN {K : PySem.W.Frag} {l : Addr} {ns : List Nat} (h1 : Ev ta σ H (.ref l)) (h2 : Ev tb σ H (nV a)) (hl : H l = some (.lst (nVs ns))) (ha : a < ns.length) : Ev (tOp (rIxL K) ta tb) σ H (nV (nth ns a)) := ev_ixL h1 h2 hl (nVs_nth ha)
theorem ev_lenN {K : PySem.W.Frag} {l : Addr} {ns : List Nat} (h1 : Ev ta σ H (.ref l)) (hl : H l = some (.lst (nVs ns))) : Ev (tCB (rLenS K) (tCons ta tNil)) σ H (nV ns.length) := ev_is (ev_lenL h1 hl) (by rw [nVs_len])
theorem ev_gcd (h1 : Ev ta σ H (nV a)) (h2 : Ev tb σ H (nV b)) : Ev (tCall spDiv [] E0 (tCons ta (tCons tb tNil))) σ H (nV (Nat.gcd a b)) := ev_call (ea_cons h1 (ea_cons h2 ea_nil)) fun H1 _ Q q _ => ⟨a, b, rfl, q H1 (Ex.refl H1)⟩
theorem et_gtN {a b : Nat} (h1 : Ev ta σ H (nV a)) (h2 : Ev tb σ H (nV b)) : EvT (tTest (tOp (rI0 fun i j => .bl (decide (j < i))) ta tb)) σ H (decide (b < a)) := et_is (et_gtI h1 h2) (by
  by_cases z : b < a
  · rw [decide_eq_true z, decide_eq_true (by omega)]
  · rw [decide_eq_false z, decide_eq_false (by omega)])
end
theorem toN {z : Int} (h : 0 ≤ z) : ∃ m : Nat, z = (m : Int) := ⟨z.toNat, (Int.toNat_of_nonneg h).symm⟩
section
variable {P : Program} {w : World} {K : PySem.W.Frag} {mg : Str → Option Value} {base : Heap}
/-! ### _law_common -/
theorem sc_l_common : FnScope ["_law_one", "_law_other", "_law_rest"] ["_law_one", "_law_other"] (defScope s_l_common) := ⟨rfl, rfl, rfl, by decide +kernel, rfl, by decide +kernel, by decide +kernel⟩
theorem ok_l_common (T : Tx K mg) : Okf P w K mg base 1 (He.ga K "_law_common") ["_law_one", "_law_other"] spDiv := by
  refine okf_of T.df_l_common sc_l_common (fun _ _ _ _ _ _ us hl => match us, hl with | [_, _], _ => rfl) (fun vs H Q E h => ?_) (fun cdv A outer s H vs Q E hr h => ?_)
  · obtain ⟨a, b, rfl, _⟩ := h
    rfl
  · obtain ⟨a, b, rfl, q⟩ := h
    refine ⟨_, pss_cons (ps_while PassesOwn.never (pt_cmpR op_ne (pv 1) pe_int (nomark _))
        (pss_cons (ps_set (i := 2) sc_l_common.nd rfl (.inl rfl) (pe_op op_mod (pv 0) (pv 1)))
        (pss_cons (ps_set (i := 0) sc_l_common.nd rfl (.inl rfl) (pv 1))
        (pss_one (ps_set (i := 1) sc_l_common.nd rfl (.inl rfl) (pv 2))))))
      (pss_one (ps_ret (pv 0))), ?_⟩
    refine ⟨fun m σ H' => ∃ (x y : Nat) (v : Option V), σ = [some (nV x), some (nV y), v] ∧ H' = H ∧ y = m ∧ Nat.gcd x y = Nat.gcd a b, ⟨b, a, b, none, rfl, rfl, rfl, rfl⟩, ?_⟩
    rintro m σ H' ⟨x, y, v, rfl, rfl, rfl, hg⟩
    refine ⟨_, rfl, rfl, _, rfl, ite2 (fun hne => ?_) (fun he => ?_)⟩
    · have hy : 0 < y := by
        rcases Nat.eq_zero_or_pos y with e | e
        · subst e
          simp at hne
        · exact e
      refine ⟨fun σ' H'' => ∃ (x' y' : Nat) (v : Option V), σ' = [some (nV x'), some (nV y'), v] ∧ H'' = H' ∧ y' < y ∧ Nat.gcd x' y' = Nat.gcd a b, fun σ' H'' hN => ?_, ?_⟩
      · obtain ⟨x', y', v, e1, e2, e3, e4⟩ := hN
        exact ⟨y', e3, x', y', v, e1, e2, rfl, e4⟩
      · refine ⟨_, rfl, _, rfl, _, _, rfl, rfl, (by show (0 : Int) < (y : Int); omega), _, rfl, _, rfl, y, x % y, some (nV (x % y)), ?_, rfl, Nat.mod_lt _ hy, ?_⟩
        · show [some (nV y), some (V.int ((x : Int) % (y : Int))), some (V.int ((x : Int) % (y : Int)))] = _
          rw [nat_emod]
        · rw [← hg, Nat.gcd_comm x y, Nat.gcd_rec y x, Nat.gcd_comm]
    · have hy : y = 0 := by
        rw [dec_int] at he
        simp at he
        exact he
      subst hy
      refine ⟨_, rfl, ?_⟩
      rw [← hg, Nat.gcd_zero_right] at q
      exact q
/-! ### _law_cell_at -/
def cellZ (ns : List Int) (k : Nat) : Int := if ns.length = 0 then 0 else if k / ns.length = 0 then ns.getD (k % ns.length) 0 else ns.getD (k % ns.length) 0 * (2 * ((k / ns.length : Nat) : Int) + 1) % 1000003 + 31 * ((k / ns.length : Nat) : Int)
theorem cellZ_wide {ns : List Int} {k : Nat} (hk : k ≤ 100) (h : ∀ z, z ∈ ns → Wide z) : Wide (cellZ ns k) := by
  unfold cellZ
  by_cases h0 : ns.length = 0
  · rw [if_pos h0]
    exact Nat.le_trans (bits_small (n := 1) (by decide)) (by decide)
  · rw [if_neg h0]
    have hm : k % ns.length < ns.length := Nat.mod_lt _ (by omega)
    have hz : Wide (ns.getD (k % ns.length) 0) := by
      rw [List.getD_eq_getElem?_getD, List.getElem?_eq_getElem hm]
      exact h _ (List.getElem_mem hm)
    have hdiv : k / ns.length ≤ 100 := Nat.le_trans (Nat.div_le_self _ _) hk
    generalize ns.getD (k % ns.length) 0 = c at hz ⊢
    by_cases h1 : k / ns.length = 0
    · rw [if_pos h1]
      exact hz
    · rw [if_neg h1]
      have hm3 : (0 : Int) ≤ c * (2 * ((k / ns.length : Nat) : Int) + 1) % 1000003 := Int.emod_nonneg _ (by decide)
      have hm4 : c * (2 * ((k / ns.length : Nat) : Int) + 1) % 1000003 < 1000003 := Int.emod_lt_of_pos _ (by decide)
      refine Nat.le_trans (bits_small (n := 30) ?_) (by decide)
      generalize k / ns.length = d at hdiv hm3 hm4 ⊢
      generalize c * (2 * ((d : Nat) : Int) + 1) % 1000003 = y at hm3 hm4 ⊢
      show (y + 31 * ((d : Nat) : Int)).natAbs < 1073741824
      omega
def spCell (K : PySem.W.Frag) : Sp := fun vs H Q _ => ∃ (a : Addr) (ns : List Int) (k : Nat), vs = [.ref a, nV k] ∧ SqL K H a (ns.map V.int) ∧ ns.length ≤ 63 ∧ (∀ z, z ∈ ns → Wide z) ∧ k ≤ 100 ∧ Q (.int (cellZ ns k)) H
theorem sc_l_cell_at : FnScope ["_law_script", "_law_k", "_law_lap", "_law_cell"] ["_law_script", "_law_k"] (defScope s_l_cell_at) := ⟨rfl, rfl, rfl, by decide +kernel, rfl, by decide +kernel, by decide +kernel⟩
theorem ok_l_cell_at (T : Tx K mg) : Okf P w K mg base 1 (He.ga K "_law_cell_at") ["_law_script", "_law_k"] (spCell K) := by
  refine okf_of T.df_l_cell_at sc_l_cell_at (fun _ _ _ _ _ _ us hl => match us, hl with | [_, _], _ => rfl) (fun vs H Q E h => ?_) (fun cdv A outer s H vs Q E hr h => ?_)
  · obtain ⟨a, ns, k, rfl, _⟩ := h
    rfl
  · obtain ⟨a, ns, k, rfl, hs, hl, hwd, hk, q⟩ := h
    refine ⟨_, pss_cons (ps_if (pt_cmpR op_eq (pe_callB call_len_seq (by rfl) T.b_len PySem.boot_len (pa_cons (pv 0) pa_nil)) pe_int (nomark _)) (pss_one (ps_ret pe_int)) pss_nil)
      (pss_cons (ps_set (i := 2) sc_l_cell_at.nd rfl (.inl rfl) (pe_op op_fdivW (pv 1) (pe_callB call_len_seq (by rfl) T.b_len PySem.boot_len (pa_cons (pv 0) pa_nil))))
      (pss_cons (ps_set (i := 3) sc_l_cell_at.nd rfl (.inl rfl) (pe_ix ix_list (pv 0) (pe_op op_mod (pv 1) (pe_callB call_len_seq (by rfl) T.b_len PySem.boot_len (pa_cons (pv 0) pa_nil))) (fun _ _ => rfl)))
      (pss_cons (ps_if (pt_cmpR op_eq (pv 2) pe_int (nomark _)) (pss_one (ps_ret (pv 3))) pss_nil)
      (pss_one (ps_ret (pe_op op_add (pe_op op_mod (pe_op op_mulB (pv 3) (pe_op op_add (pe_op op_mulB pe_int (pv 2)) pe_int)) pe_int) (pe_op op_mulB pe_int (pv 2)))))))), ?_⟩
    have el : (ns.map V.int).length = ns.length := List.length_map _
    refine ⟨_, rfl, a, _, rfl, .inl hs, rfl, _, rfl, ite2 (fun hc => ?_) (fun hc => ?_)⟩
    · rw [el] at hc
      have h0 : ns.length = 0 := by simpa using hc
      unfold cellZ at q
      rw [if_pos h0] at q
      exact q
    · have hn0 : 0 < ns.length := by
        rw [el] at hc
        rcases Nat.eq_zero_or_pos ns.length with e | e
        · rw [e] at hc; simp at hc
        · exact e
      have hm : k % ns.length < ns.length := Nat.mod_lt _ hn0
      have hdiv : k / ns.length ≤ 100 := Nat.le_trans (Nat.div_le_self _ _) hk
      refine ⟨_, rfl, _, rfl, a, _, rfl, .inl hs, _, _, rfl, rfl, by rw [el]; exact div_w (n := 10) hn0 (by show _ < 1024; omega) (by decide) (by decide), ?_⟩
      refine ⟨_, rfl, _, rfl, _, rfl, a, _, rfl, .inl hs, _, _, rfl, rfl, by show (0 : Int) < _; rw [el]; omega, a, _, _, .int (ns.getD (k % ns.length) 0), rfl, rfl, hs, ?_, ?_⟩
      · show atI (ns.map V.int) ((k : Int) % ((ns.map V.int).length : Int)) = _
        rw [el, nat_emod]
        refine atI_nat (j := k % ns.length) ?_
        rw [List.getElem?_map, List.getD_eq_getElem?_getD, List.getElem?_eq_getElem hm]
        rfl
      · have hz : Wide (ns.getD (k % ns.length) 0) := by
          rw [List.getD_eq_getElem?_getD, List.getElem?_eq_getElem hm]
          exact hwd _ (List.getElem_mem hm)
        unfold cellZ at q
        rw [if_neg (by omega)] at q
        generalize ns.getD (k % ns.length) 0 = c at hz q ⊢
        refine ⟨_, rfl, rfl, _, rfl, ?_⟩
        show if decide (V.int ((k : Int) / ((ns.map V.int).length : Int)) = V.int 0) = true then _ else _
        rw [el, nat_ediv]
        refine ite2 (fun hc2 => ?_) (fun hc2 => ?_)
        · have h1 : k / ns.length = 0 := by
            have := V.int.inj (of_decide_eq_true hc2)
            omega
          rw [if_pos h1] at q
          exact ⟨_, rfl, q⟩
        · have h1 : ¬ k / ns.length = 0 := fun z => by
            rw [z] at hc2
            simp at hc2
          rw [if_neg h1] at q
          have hk2 : ((k / ns.length : Nat) : Int).natAbs < 2 ^ 10 := by rw [Int.natAbs_natCast]; show _ < 1024; omega
          exact ⟨_, rfl, _, rfl, _, _, rfl, rfl, cb (Nat.le_trans (bits_small (n := 10) (by decide)) (by decide)) (Nat.le_trans (bits_small hk2) (by decide)), _, _, rfl, rfl, _, _, rfl, rfl, hz.cb (n := 20) (by show (2 * ((k / ns.length : Nat) : Int) + 1).natAbs < 1048576; omega) (by decide), _, _, rfl, rfl, (by show (0 : Int) < 1000003; decide), _, rfl, _, _, rfl, rfl, cb (Nat.le_trans (bits_small (n := 10) (by decide)) (by decide)) (Nat.le_trans (bits_small hk2) (by decide)), _, _, rfl, rfl, q⟩
section
open Evl
variable {K : PySem.W.Frag} {σ : L2.St} {H : Hp} {ta tb : TE}
theorem ev_cell {a : Addr} {ns : List Int} {k : Nat} (h1 : Ev ta σ H (.ref a)) (h2 : Ev tb σ H (nV k)) (hs : SqL K H a (ns.map V.int)) (hl : ns.length ≤ 63) (hw : ∀ z, z ∈ ns → Wide z) (hk : k ≤ 100) : Ev (tCall (spCell K) [] E0 (tCons ta (tCons tb tNil))) σ H (.int (cellZ ns k)) :=
  ev_call (ea_cons h1 (ea_cons h2 ea_nil)) fun H1 e Q q _ => ⟨a, ns, k, rfl, ex_l e hs, hl, hw, hk, q H1 (Ex.refl H1)⟩
end
/-! ### _law_belt_by -/
theorem belt_math {tb rg rt : Nat} (hg : 0 < rg) (ht : 0 < rt) (htb : 0 < tb) : tb * rt / Nat.gcd rg rt * rg = tb * rg / Nat.gcd rg rt * rt ∧ 0 < tb * rt / Nat.gcd rg rt ∧ 0 < tb * rg / Nat.gcd rg rt ∧ tb * rt / Nat.gcd rg rt ≤ tb * rt ∧ tb * rg / Nat.gcd rg rt ≤ tb * rg := by
  have h0 : 0 < Nat.gcd rg rt := Nat.gcd_pos_of_pos_left _ hg
  have e1 : tb * rt / Nat.gcd rg rt = tb * (rt / Nat.gcd rg rt) := Nat.mul_div_assoc _ (Nat.gcd_dvd_right _ _)
  have e2 : tb * rg / Nat.gcd rg rt = tb * (rg / Nat.gcd rg rt) := Nat.mul_div_assoc _ (Nat.gcd_dvd_left _ _)
  have p1 : 0 < rt / Nat.gcd rg rt := Nat.div_pos (Nat.le_of_dvd ht (Nat.gcd_dvd_right _ _)) h0
  have p2 : 0 < rg / Nat.gcd rg rt := Nat.div_pos (Nat.le_of_dvd hg (Nat.gcd_dvd_left _ _)) h0
  refine ⟨?_, by rw [e1]; exact Nat.mul_pos htb p1, by rw [e2]; exact Nat.mul_pos htb p2, Nat.div_le_self _ _, Nat.div_le_self _ _⟩
  rw [e1, e2, Nat.mul_assoc, Nat.mul_assoc]
  congr 1
  have k1 : rt / Nat.gcd rg rt * Nat.gcd rg rt = rt := Nat.div_mul_cancel (Nat.gcd_dvd_right _ _)
  have k2 : rg / Nat.gcd rg rt * Nat.gcd rg rt = rg := Nat.div_mul_cancel (Nat.gcd_dvd_left _ _)
  generalize rt / Nat.gcd rg rt = x at k1 ⊢
  generalize rg / Nat.gcd rg rt = y at k2 ⊢
  generalize Nat.gcd rg rt = g at k1 k2
  rw [← k1, ← k2]
  exact Nat.mul_left_comm x y g
/-- what the drawn belts keep -/
structure Drawn (r0 : List Nat) (b : Belt) : Prop where
  g : b.g < r0.length
  t : b.t < r0.length
  gv : 0 < b.gv ∧ b.gv < 2 ^ 80
  tk : 0 < b.tk ∧ b.tk < 2 ^ 80
  bal : b.gv * nth r0 b.g = b.tk * nth r0 b.t
  st : b.tk * nth r0 b.t ≤ b.st ∧ b.st < 2 ^ 90
def spBeltBy : Sp := fun vs H Q _ => ∃ (z : Int) (rl : Addr) (r0 : List Nat) (top : Nat), vs = [.int z, .ref rl, nV top, .bl true] ∧ Wide z ∧ H rl = some (.lst (nVs r0)) ∧ 0 < r0.length ∧ r0.length ≤ 7 ∧ (∀ i, i < r0.length → 0 < nth r0 i ∧ nth r0 i ≤ 6) ∧ 0 < top ∧ top ≤ 10 ^ 20 ∧
  ∀ b : Belt, Drawn r0 b → RT (bV b) H Q
theorem sc_l_belt_by : FnScope ["_law_cell", "_law_rates", "_law_top", "_law_ample", "_law_mix", "_law_giver", "_law_taker", "_law_both", "_law_times_by", "_law_give", "_law_take", "_law_start"] ["_law_cell", "_law_rates", "_law_top", "_law_ample"] (defScope s_l_belt_by) := ⟨rfl, rfl, rfl, by decide +kernel, rfl, by decide +kernel, by decide +kernel⟩
theorem ok_l_belt_by (T : Tx K mg) : Okf P w K mg base 2 (He.ga K "_law_belt_by") ["_law_cell", "_law_rates", "_law_top", "_law_ample"] spBeltBy := by
  obtain ⟨fC, GC, kC, bC⟩ := ok_l_common (P := P) (w := w) (base := base) T
  refine okf_of T.df_l_belt_by sc_l_belt_by (fun _ _ _ _ _ _ us hl => match us, hl with | [_, _, _, _], _ => rfl) (fun vs H Q E h => ?_) (fun cdv A outer s H vs Q E hr h => ?_)
  · obtain ⟨z, rl, r0, top, rfl, _⟩ := h
    rfl
  · obtain ⟨z, rl, r0, top, rfl, hz, hrl, hn0, hn7, hr0, ht0, ht1, q⟩ := h
    refine ⟨_, pss_cons (ps_set (i := 4) sc_l_belt_by.nd rfl (.inl rfl) (pe_op op_mod (pe_op op_mulB (pv 0) pe_int) pe_int))
      (pss_cons (ps_set (i := 5) sc_l_belt_by.nd rfl (.inl rfl) (pe_op op_mod (pv 4) (pe_callB call_len_seq (by rfl) T.b_len PySem.boot_len (pa_cons (pv 1) pa_nil))))
      (pss_cons (ps_set (i := 6) sc_l_belt_by.nd rfl (.inl rfl) (pe_op op_mod (pe_op op_fdivW (pv 4) pe_int) (pe_callB call_len_seq (by rfl) T.b_len PySem.boot_len (pa_cons (pv 1) pa_nil))))
      (pss_cons (ps_set (i := 7) sc_l_belt_by.nd rfl (.inl rfl) (pe_call GC hr (by rfl) T.g_l_common kC bC .nil pass0 (pa_cons (pe_ix ix_list (pv 1) (pv 5) (fun _ _ => rfl)) (pa_cons (pe_ix ix_list (pv 1) (pv 6) (fun _ _ => rfl)) pa_nil))))
      (pss_cons (ps_set (i := 8) sc_l_belt_by.nd rfl (.inl rfl) (pe_op op_add pe_int (pe_op op_mod (pe_op op_fdivW (pv 4) pe_int) (pv 2))))
      (pss_cons (ps_if (pt_cmpR op_gt (pv 2) pe_int (nomark _)) (pss_one (ps_set (i := 8) sc_l_belt_by.nd rfl (.inl rfl) (pe_op op_add pe_int (pe_op op_mod (pv 0) (pv 2))))) pss_nil)
      (pss_cons (ps_set (i := 9) sc_l_belt_by.nd rfl (.inl rfl) (pe_op op_fdivW (pe_op op_mulB (pv 8) (pe_ix ix_list (pv 1) (pv 6) (fun _ _ => rfl))) (pv 7)))
      (pss_cons (ps_set (i := 10) sc_l_belt_by.nd rfl (.inl rfl) (pe_op op_fdivW (pe_op op_mulB (pv 8) (pe_ix ix_list (pv 1) (pv 5) (fun _ _ => rfl))) (pv 7)))
      (pss_cons (ps_set (i := 11) sc_l_belt_by.nd rfl (.inl rfl) (pe_op op_mod (pe_op op_fdivW (pv 4) pe_int) pe_int))
      (pss_cons (ps_if (PW.pt (pw_or (pt_val (pv 3)) (pw_or1 (PW.pt (pw_and (pt_cmpR op_ge (pv 5) (pv 6) (nomark _)) (pw_and1 (pt_cmpR op_gt (pe_op op_mod (pe_op op_fdivW (pv 4) pe_int) pe_int) pe_int (nomark _)))))))) (pss_one (ps_set (i := 11) sc_l_belt_by.nd rfl (.inl rfl) (pe_op op_add (pv 11) (pe_op op_mulB (pv 10) (pe_ix ix_list (pv 1) (pv 6) (fun _ _ => rfl)))))) pss_nil)
      (pss_one (ps_ret (pe_tup (pa_cons (pv 5) (pa_cons (pv 6) (pa_cons (pv 9) (pa_cons (pv 10) (pa_cons (pv 11) pa_nil))))))))))))))))), ?_⟩
    obtain ⟨m, em⟩ := toN (Int.emod_nonneg (z * 48271) (b := 2147483647) (by decide))
    have hm : m < 2147483647 := by
      have := Int.emod_lt_of_pos (z * 48271) (b := 2147483647) (by decide)
      omega
    obtain ⟨m2, em2⟩ := toN (Int.emod_nonneg z (b := (top : Int)) (by omega))
    have hm2 : m2 < top := by
      have := Int.emod_lt_of_pos z (b := (top : Int)) (by omega)
      omega
    have e20 : (10 : Nat) ^ 20 < 2 ^ 70 := by decide
    refine Evl.q_asg (v := nV m) (Evl.ev_is (Evl.ev_op (Evl.ev_op (Evl.ev_var rfl) Evl.ev_c (Evl.rv_I (i := z) (j := 48271) (hz.cb (n := 20) (by decide) (by decide)))) Evl.ev_c (Evl.rv_I (i := z * 48271) (j := 2147483647) (by show (0 : Int) < 2147483647; decide))) (congrArg V.int em)) fun H1 e1 => ?_
    have hrl1 := e1 _ _ hrl
    refine Evl.q_asg (v := nV (m % r0.length)) (ev_modN (Evl.ev_var rfl) (ev_lenN (Evl.ev_var rfl) hrl1) hn0) fun H2 e2 => ?_
    have hrl2 := e2 _ _ hrl1
    refine Evl.q_asg (v := nV (m / 7 % r0.length)) (ev_modN (ev_divN (b := 7) (Evl.ev_var rfl) Evl.ev_c (by decide) (by decide)) (ev_lenN (Evl.ev_var rfl) hrl2) hn0) fun H3 e3 => ?_
    have hrl3 := e3 _ _ hrl2
    have hgl : m % r0.length < r0.length := Nat.mod_lt _ hn0
    have htl : m / 7 % r0.length < r0.length := Nat.mod_lt _ hn0
    generalize m % r0.length = g at hgl ⊢
    generalize m / 7 % r0.length = t at htl ⊢
    obtain ⟨hg1, hg2⟩ := hr0 g hgl
    obtain ⟨ht1', ht2⟩ := hr0 t htl
    refine Evl.q_asg (v := nV (Nat.gcd (nth r0 g) (nth r0 t))) (ev_gcd (ev_ixN (Evl.ev_var rfl) (Evl.ev_var rfl) hrl3 hgl) (ev_ixN (Evl.ev_var rfl) (Evl.ev_var rfl) hrl3 htl)) fun H4 e4 => ?_
    refine Evl.q_asg (v := nV (1 + m / 49 % top)) (ev_addN (a := 1) Evl.ev_c (ev_modN (ev_divN (b := 49) (Evl.ev_var rfl) Evl.ev_c (by decide) (by decide)) (Evl.ev_var rfl) ht0)) fun H5 e5 => ?_
    have hrl5 := e5 _ _ (e4 _ _ hrl3)
    refine Evl.q_ifAsg (b := decide (2 < top)) (v := nV (if 2 < top then 1 + m2 else 1 + m / 49 % top)) (et_gtN (b := 2) (Evl.ev_var rfl) Evl.ev_c) (fun hc => ?_) (fun hc => ?_) fun H6 e6 => ?_
    · rw [if_pos (of_decide_eq_true hc)]
      exact ev_addN (a := 1) Evl.ev_c (Evl.ev_is (Evl.ev_op (Evl.ev_var rfl) (Evl.ev_var rfl) (Evl.rv_I (i := z) (j := (top : Int)) (by show (0 : Int) < (top : Int); omega))) (congrArg V.int em2))
    · rw [if_neg (of_decide_eq_false hc)]
      rfl
    have htb : 0 < (if 2 < top then 1 + m2 else 1 + m / 49 % top) ∧ (if 2 < top then 1 + m2 else 1 + m / 49 % top) ≤ 10 ^ 20 := by
      have := Nat.mod_lt (m / 49) ht0
      by_cases zz : 2 < top
      · rw [if_pos zz]; omega
      · rw [if_neg zz]; omega
    generalize (if 2 < top then 1 + m2 else 1 + m / 49 % top) = tb at htb ⊢
    have hrl6 := e6 _ _ hrl5
    obtain ⟨k1, k2, k3, k4, k5⟩ := belt_math (tb := tb) hg1 ht1' htb.1
    have hgp : 0 < Nat.gcd (nth r0 g) (nth r0 t) := Nat.gcd_pos_of_pos_left _ hg1
    have hgle : Nat.gcd (nth r0 g) (nth r0 t) ≤ 6 := Nat.le_trans (Nat.gcd_le_left _ hg1) hg2
    have big : ∀ {x : Nat}, x ≤ 6 → tb * x < 2 ^ 80 := fun {x} hx => Nat.lt_of_le_of_lt (Nat.mul_le_mul htb.2 hx) (by decide)
    have b200 : ∀ {x : Nat}, x ≤ 10 → x < 2 ^ 200 := fun {x} hx => Nat.lt_of_le_of_lt hx (by decide)
    have b200' : ∀ {x : Nat}, x < 2 ^ 80 → x < 2 ^ 200 := fun {x} hx => Nat.lt_of_lt_of_le hx (by decide)
    have tb200 : tb < 2 ^ 200 := Nat.lt_of_le_of_lt htb.2 (by decide)
    refine Evl.q_asg (v := nV (tb * nth r0 t / Nat.gcd (nth r0 g) (nth r0 t))) (ev_divN (ev_mulN (Evl.ev_var rfl) (ev_ixN (Evl.ev_var rfl) (Evl.ev_var rfl) hrl6 htl) tb200 (b200 (by omega))) (Evl.ev_var rfl) hgp (b200 (by omega))) fun H7 e7 => ?_
    have hrl7 := e7 _ _ hrl6
    refine Evl.q_asg (v := nV (tb * nth r0 g / Nat.gcd (nth r0 g) (nth r0 t))) (ev_divN (ev_mulN (Evl.ev_var rfl) (ev_ixN (Evl.ev_var rfl) (Evl.ev_var rfl) hrl7 hgl) tb200 (b200 (by omega))) (Evl.ev_var rfl) hgp (b200 (by omega))) fun H8 e8 => ?_
    have hrl8 := e8 _ _ hrl7
    have hb1 := big ht2
    have hb2 := big hg2
    generalize tb * nth r0 t / Nat.gcd (nth r0 g) (nth r0 t) = gv at k1 k2 k4 ⊢
    generalize tb * nth r0 g / Nat.gcd (nth r0 g) (nth r0 t) = tk at k1 k3 k5 ⊢
    refine Evl.q_asg (v := nV (m / 98 % 3)) (ev_modN (b := 3) (ev_divN (b := 98) (Evl.ev_var rfl) Evl.ev_c (by decide) (by decide)) Evl.ev_c (by decide)) fun H9 e9 => ?_
    have hrl9 := e9 _ _ hrl8
    refine Evl.q_ifAsg (b := true || false) (v := nV (m / 98 % 3 + tk * nth r0 t)) (Evl.et_or (Evl.et_B (Evl.ev_var rfl)) fun h => by cases h) (fun _ => ?_) (fun hc => by cases hc) fun H10 e10 => ?_
    · exact ev_addN (Evl.ev_var rfl) (ev_mulN (Evl.ev_var rfl) (ev_ixN (Evl.ev_var rfl) (Evl.ev_var rfl) hrl9 htl) (b200' (by omega)) (b200 (by omega)))
    · have hx : tk * nth r0 t < 2 ^ 88 := Nat.lt_of_le_of_lt (Nat.mul_le_mul (Nat.le_of_lt (show tk < 2 ^ 80 by omega)) ht2) (by decide)
      have h3 : m / 98 % 3 < 3 := Nat.mod_lt _ (by decide)
      refine ⟨_, rfl, _, rfl, _, rfl, _, rfl, _, rfl, small_line (by show 5 ≤ 100000; omega), fun p hp => ?_⟩
      have ex := ((((((((e1.trans e2).trans e3).trans e4).trans e5).trans e6).trans e7).trans e8).trans e9).trans e10
      exact q ⟨g, t, gv, tk, m / 98 % 3 + tk * nth r0 t⟩ ⟨hgl, htl, ⟨k2, by show gv < _; omega⟩, ⟨k3, by show tk < _; omega⟩, k1, ⟨Nat.le_add_left _ _, by show m / 98 % 3 + tk * nth r0 t < 2 ^ 90; omega⟩⟩ p _ (Evl.fresh_back ex hp) ((Fr.of_ex ex).new hp) upd_same
end
end RH
/-! The law's helpers: least rates. -/
namespace RH
open PySem PySem.Spec PyProof.Rows L2
theorem rgV_nat (n : Nat) : rgV 0 (n : Int) = nVs (List.range n) := by
  unfold rgV nVs
  rw [show ((n : Int) - 0).toNat = n by omega]
  exact List.map_congr_left fun i _ => congrArg V.int (by omega)
section
open Evl
variable {K : PySem.W.Frag} {σ : L2.St} {H : Hp} {ta tb : TE} {a b : Nat}
theorem ev_minN (h1 : Ev ta σ H (nV a)) (h2 : Ev tb σ H (nV b)) : Ev (tCB (fun xs H Q => ∃ i j, xs = [V.int i, V.int j] ∧ Q (.int (if j < i then j else i)) H) (tCons ta (tCons tb tNil))) σ H (nV (min a b)) := ev_cb (ea_cons h1 (ea_cons h2 ea_nil)) fun H1 _ Q q => ⟨a, b, rfl, by
  have k := q H1 (Ex.refl H1)
  have e : (if (b : Int) < (a : Int) then (b : Int) else (a : Int)) = ((min a b : Nat) : Int) := by
    by_cases z : (b : Int) < (a : Int)
    · rw [if_pos z, Nat.min_eq_right (by omega)]
    · rw [if_neg z, Nat.min_eq_left (by omega)]
  rw [e]
  exact k⟩
end
theorem lab_lt {n : Nat} {bs : List Belt} {r : List Nat} (B : Bal n bs r) {w : Nat} (hw : w < n) {lab : List Nat} : 0 < pieceGcd r lab n w ∧ pieceGcd r lab n w ≤ 6 := by
  have hd : pieceGcd r lab n w ∣ nth r w := dvd_pieceGcd.mp (Nat.dvd_refl _) w hw rfl
  have hp := B.pos w hw
  exact ⟨Nat.pos_of_dvd_of_pos hd hp, Nat.le_trans (Nat.le_of_dvd hp hd) (B.le6 w hw)⟩
section
variable {P : Program} {w : World} {K : PySem.W.Frag} {mg : Str → Option Value} {base : Heap}
def spLeast : Sp := fun vs H Q _ => ∃ (rl bl : Addr) (r : List Nat) (bs : List Belt) (n : Nat), vs = [.ref rl, .ref bl] ∧ H rl = some (.lst (nVs r)) ∧ Bls H bl bs ∧ Bal n bs r ∧ n ≤ 7 ∧ RL (nVs (least r n bs)) H Q
theorem sc_l_least : FnScope ["_law_rates", "_law_belts", "_law_label", "_law_turn", "_law_belt", "_law_low", "_law_found", "_law_work", "_law_both", "_law_other"] ["_law_rates", "_law_belts"] (defScope s_l_least) := ⟨rfl, rfl, rfl, by decide +kernel, rfl, by decide +kernel, by decide +kernel⟩
theorem ok_l_least (T : Tx K mg) : Okf P w K mg base 2 (He.ga K "_law_least") ["_law_rates", "_law_belts"] spLeast := by
  obtain ⟨fC, GC, kC, bC⟩ := ok_l_common (P := P) (w := w) (base := base) T
  refine okf_of T.df_l_least sc_l_least (fun _ _ _ _ _ _ us hl => match us, hl with | [_, _], _ => rfl) (fun vs H Q E h => ?_) (fun cdv A outer s H vs Q E hr h => ?_)
  · obtain ⟨rl, bl, r, bs, n, rfl, _⟩ := h
    rfl
  · obtain ⟨rl, bl, r, bs, n, rfl, hrl, ⟨as, ebl, tps⟩, B, hn, q⟩ := h
    refine ⟨_, pss_cons (ps_set (i := 2) sc_l_least.nd rfl (.inl rfl) (pe_listRg rfl (by rfl) T.b_list (prg_1 (by rfl) T.b_range (pe_callB call_len_seq (by rfl) T.b_len PySem.boot_len (pa_cons (pv 0) pa_nil)))))
      (pss_cons (ps_for PassesOwn.never rfl (pi_list (pv 0)) (pg_name (i := 3) sc_l_least.nd rfl (.inl rfl))
        (pss_one (ps_for PassesOwn.never rfl (pi_list (pv 1)) (pg_name (i := 4) sc_l_least.nd rfl (.inl rfl))
          (pss_cons (ps_set (i := 5) sc_l_least.nd rfl (.inl rfl) (pe_callB (call_min2 rfl) (by rfl) T.b_min (by decide +kernel) (pa_cons (pe_ix ix_list (pv 2) (pe_ix ix_tup (pv 4) pe_int (fun _ _ => rfl)) (fun _ _ => rfl)) (pa_cons (pe_ix ix_list (pv 2) (pe_ix ix_tup (pv 4) pe_int (fun _ _ => rfl)) (fun _ _ => rfl)) pa_nil))))
          (pss_cons (ps_asg (pv 5) (pg_sub (pv 2) (pe_ix ix_tup (pv 4) pe_int (fun _ _ => rfl)) set_list))
          (pss_one (ps_asg (pv 5) (pg_sub (pv 2) (pe_ix ix_tup (pv 4) pe_int (fun _ _ => rfl)) set_list))))))))
      (pss_cons (ps_set (i := 6) sc_l_least.nd rfl (.inl rfl) (pe_lst pa_nil))
      (pss_cons (ps_for PassesOwn.never rfl (pi_range1 (by rfl) T.b_range (pa_cons (pe_callB call_len_seq (by rfl) T.b_len PySem.boot_len (pa_cons (pv 0) pa_nil)) pa_nil)) (pg_name (i := 7) sc_l_least.nd rfl (.inl rfl))
        (pss_cons (ps_set (i := 8) sc_l_least.nd rfl (.inl rfl) pe_int)
        (pss_cons (ps_for PassesOwn.never rfl (pi_range1 (by rfl) T.b_range (pa_cons (pe_callB call_len_seq (by rfl) T.b_len PySem.boot_len (pa_cons (pv 0) pa_nil)) pa_nil)) (pg_name (i := 9) sc_l_least.nd rfl (.inl rfl))
          (pss_one (ps_if (pt_cmpR op_eq (pe_ix ix_list (pv 2) (pv 9) (fun _ _ => rfl)) (pe_ix ix_list (pv 2) (pv 7) (fun _ _ => rfl)) (nomark _)) (pss_one (ps_set (i := 8) sc_l_least.nd rfl (.inl rfl) (pe_call GC hr (by rfl) T.g_l_common kC bC .nil pass0 (pa_cons (pv 8) (pa_cons (pe_ix ix_list (pv 0) (pv 9) (fun _ _ => rfl)) pa_nil))))) pss_nil)))
        (pss_one (ps_expr (pe_bm PySem.F.plainAttrs_list PySem.F.slot_list_append PySem.F.type_list_append mt_append (pv 6) (pa_cons (pe_op op_fdivW (pe_ix ix_list (pv 0) (pv 7) (fun _ _ => rfl)) (pv 8)) pa_nil)))))))
      (pss_one (ps_ret (pv 6)))))), ?_⟩
    have hrn : r.length = n := B.len
    have hw : Within n bs := fun e he => ⟨(B.bel e he).1, (B.bel e he).2.1⟩
    refine ⟨_, rfl, rl, _, rfl, .inl (SqL.of hrl), _, rfl, RgOk.of_le (by omega) (by rw [nVs_len]; omega) (by omega) (by rw [nVs_len]; omega), fun lb hlb => ?_⟩
    rw [nVs_len, rgV_nat, hrn]
    have f1 : Fr [] H (upd H lb (.lst (nVs (List.range n)))) := Fr.n0 hlb
    have el : (upd H lb (.lst (nVs (List.range n)))) lb = some (.lst (nVs (List.range n))) := upd_same
    generalize upd H lb (.lst (nVs (List.range n))) = H1 at f1 el ⊢
    have nr : rl ∉ [lb] := by
      have := ne_of_none hrl hlb
      simpa using this
    have nb : bl ∉ [lb] := by
      have := ne_of_none ebl hlb
      simpa using this
    refine ⟨_, rfl, rl, rfl, ⟨_, SqL.of (f1.at_ hrl)⟩, for_list (K := K) (a := rl) (xs := nVs r) (fun i σ' H' => ∃ (v3 v4 v5 : Option V), σ' = [some (.ref rl), some (.ref bl), some (.ref lb), v3, v4, v5, none, none, none, none] ∧ Fr [lb] H H' ∧ H' lb = some (.lst (nVs (rounds bs i (List.range n)))))
      ⟨none, none, none, rfl, f1.nil, el⟩ (fun i σ' H' _ ⟨_, _, _, _, f, _⟩ => SqL.of (f.kp _ _ hrl nr)) ?_ ?_⟩
    · rintro i y σ' H2 hi ⟨v3, v4, v5, rfl, f2, e2⟩
      refine ⟨_, rfl, bl, rfl, ⟨_, SqL.of (f2.kp _ _ ebl nb)⟩, for_list (K := K) (a := bl) (xs := rV as) (fun j σ' H' => ∃ (v4 v5 : Option V), σ' = [some (.ref rl), some (.ref bl), some (.ref lb), some y, v4, v5, none, none, none, none] ∧ Fr [lb] H H' ∧ H' lb = some (.lst (nVs ((bs.take j).foldl stepL (rounds bs i (List.range n))))))
        ⟨_, _, rfl, f2, e2⟩ (fun i σ' H' _ ⟨_, _, _, f, _⟩ => SqL.of (f.kp _ _ ebl nb)) ?_ ?_⟩
      · rintro j yb σ' H3 hj ⟨v4, v5, rfl, f3, e3⟩
        obtain ⟨a, ha, rfl⟩ := of_rV hj
        obtain ⟨b, hb, hta⟩ := tps.at_ ha
        obtain ⟨hbg, hbt⟩ := hw b (List.mem_of_getElem? hb)
        have hlen : ((bs.take j).foldl stepL (rounds bs i (List.range n))).length = n := by
          show (round (bs.take j) (rounds bs i (List.range n))).length = n
          rw [round_len, rounds_len, List.length_range]
        rw [foldl_take _ _ hb]
        generalize (bs.take j).foldl stepL (rounds bs i (List.range n)) = lab at e3 hlen ⊢
        have hta3 := f3.tp _ _ hta
        refine g_go ?_
        dsimp only
        refine Evl.q_asg (v := nV (min (nth lab b.g) (nth lab b.t))) (ev_minN (ev_ixN (Evl.ev_var rfl) (ev_belt (j := 0) (Evl.ev_var rfl) hta3 rfl) e3 (by omega)) (ev_ixN (Evl.ev_var rfl) (ev_belt (j := 1) (Evl.ev_var rfl) hta3 rfl) e3 (by omega))) fun H4 e4 => ?_
        have e34 := e4 _ _ e3
        have hta4 := e4 _ _ hta3
        refine ⟨_, rfl, _, rfl, _, rfl, a, _, 0, _, rfl, rfl, SqT.of hta4, rfl, lb, _, _, b.g, rfl, rfl, e34, ixN_nat (by rw [nVs_len]; omega), ?_⟩
        have es1 : (nVs lab).set b.g (nV (min (nth lab b.g) (nth lab b.t))) = nVs (lab.set b.g (min (nth lab b.g) (nth lab b.t))) := by unfold nVs; rw [List.map_set]
        rw [es1]
        have f5 : Fr [lb] H4 (upd H4 lb (.lst (nVs (lab.set b.g (min (nth lab b.g) (nth lab b.t)))))) := (Fr.refl _ H4).mutL (.inl (by simp)) e34
        have e5 : (upd H4 lb (.lst (nVs (lab.set b.g (min (nth lab b.g) (nth lab b.t)))))) lb = some (.lst (nVs (lab.set b.g (min (nth lab b.g) (nth lab b.t))))) := upd_same
        generalize upd H4 lb (.lst (nVs (lab.set b.g (min (nth lab b.g) (nth lab b.t))))) = H5 at f5 e5 ⊢
        refine ⟨_, rfl, _, rfl, _, rfl, a, _, 1, _, rfl, rfl, SqT.of (f5.tp _ _ hta4), rfl, lb, _, _, b.t, rfl, rfl, e5, ixN_nat (by rw [nVs_len, List.length_set]; omega), ?_⟩
        have f6 : Fr [lb] H H5 := (f3.trans (Fr.of_ex e4).nil).trans f5
        refine ⟨_, _, rfl, f6.mutL (.inl (by simp)) e5, ?_⟩
        rw [upd_same]
        unfold nVs stepL
        simp only [List.map_set]
      · rintro σ' H3 ⟨v4, v5, rfl, f3, e3⟩
        rw [rV_len, tps.1, List.take_length] at e3
        exact ⟨_, _, _, rfl, f3, e3⟩
    · rintro σ' H2 ⟨v3, v4, v5, rfl, f2, e2⟩
      rw [nVs_len, hrn] at e2
      change H2 lb = some (.lst (nVs (labels n bs))) at e2
      have hlab : (labels n bs).length = n := by
        show (rounds bs n (List.range n)).length = n
        rw [rounds_len, List.length_range]
      refine ⟨Nat.zero_le _, fun fd hfd => ?_⟩
      have f3 : Fr [] H2 (upd H2 fd (.lst [])) := Fr.n0 hfd
      have efd : (upd H2 fd (.lst [])) fd = some (.lst (nVs [])) := upd_same
      have hfd0 := f2.free hfd
      have e3 := f3.at_ e2
      have hrl3 := f3.at_ (f2.kp _ _ hrl nr)
      generalize upd H2 fd (.lst []) = H3 at f3 efd e3 hrl3 ⊢
      have nfr : rl ∉ [fd] := by
        have := ne_of_none hrl hfd0
        simpa using this
      have nfl : lb ∉ [fd] := by
        have := ne_of_none e2 hfd
        simpa using this
      refine ⟨_, rfl, rl, _, rfl, .inl (SqL.of hrl3), _, rfl, by omega, by rw [nVs_len]; omega, ?_⟩
      have en : ((nVs r).length : Int).toNat = n := by rw [nVs_len, hrn]; exact Int.toNat_natCast n
      rw [en]
      refine for_rangeN (fun i σ' H' => ∃ (v7 v8 v9 : Option V), σ' = [some (.ref rl), some (.ref bl), some (.ref lb), v3, v4, v5, some (.ref fd), v7, v8, v9] ∧ Fr [fd] H3 H' ∧ H' fd = some (.lst (nVs ((List.range i).map fun w => nth r w / pieceGcd r (labels n bs) n w)))) ⟨_, _, _, rfl, Fr.refl _ _, efd⟩ ?_ ?_
      · rintro i σ' H4 hi ⟨v7, v8, v9, rfl, f4, e4⟩
        have hrl4 := f4.kp _ _ hrl3 nfr
        have el4 := f4.kp _ _ e3 nfl
        refine ⟨_, rfl, rl, _, rfl, .inl (SqL.of hrl4), _, rfl, by omega, by rw [nVs_len]; omega, ?_⟩
        rw [en]
        refine for_rangeN (fun j σ' H' => ∃ (v9 : Option V), σ' = [some (.ref rl), some (.ref bl), some (.ref lb), v3, v4, v5, some (.ref fd), some (nV i), some (nV ((List.range j).foldl (fun a o => if nth (labels n bs) o = nth (labels n bs) i then Nat.gcd a (nth r o) else a) 0)), v9] ∧ Fr [] H4 H') ⟨_, rfl, Fr.refl _ _⟩ ?_ ?_
        · rintro j σ' H5 hj ⟨v9, rfl, f5⟩
          refine g_go ?_
          rw [List.range_succ, List.foldl_append]
          show tIfS _ _ _ _ _ _
          generalize (List.range j).foldl (fun a o => if nth (labels n bs) o = nth (labels n bs) i then Nat.gcd a (nth r o) else a) 0 = acc
          refine Evl.s_when (b := decide (nth (labels n bs) j = nth (labels n bs) i)) (et_eqN (ev_ixN (Evl.ev_var rfl) (Evl.ev_var rfl) (f5.at_ el4) (by omega)) (ev_ixN (Evl.ev_var rfl) (Evl.ev_var rfl) (f5.at_ el4) (by omega))) (fun hc H6 e6 => ?_) (fun hc H6 e6 => ?_)
          · refine Evl.s_asg (v := nV (Nat.gcd acc (nth r j))) (ev_gcd (Evl.ev_var rfl) (ev_ixN (Evl.ev_var rfl) (Evl.ev_var rfl) (e6 _ _ (f5.at_ hrl4)) (by omega))) fun H7 e7 => ⟨some (nV j), ?_, (f5.trans (.of_ex e6)).trans (.of_ex e7)⟩
            show _ = [_, _, _, _, _, _, _, _, some (nV (if nth (labels n bs) j = nth (labels n bs) i then Nat.gcd acc (nth r j) else acc)), _]
            rw [if_pos (of_decide_eq_true hc)]
            rfl
          · refine ⟨some (nV j), ?_, f5.trans (.of_ex e6)⟩
            show _ = [_, _, _, _, _, _, _, _, some (nV (if nth (labels n bs) j = nth (labels n bs) i then Nat.gcd acc (nth r j) else acc)), _]
            rw [if_neg (of_decide_eq_false hc)]
            rfl
        · rintro σ' H5 ⟨v9, rfl, f5⟩
          have hp := lab_lt B hi (lab := labels n bs)
          change _ at hp
          have e5 := f5.at_ e4
          refine Evl.s_app (v := nV (nth r i / pieceGcd r (labels n bs) n i)) e5 (Evl.ev_var rfl) (ev_divN (ev_ixN (Evl.ev_var rfl) (Evl.ev_var rfl) (f5.at_ hrl4) (by omega)) (Evl.ev_var rfl) hp.1 (Nat.lt_of_le_of_lt hp.2 (by decide))) (by rw [nVs_len, List.length_map, List.length_range]; omega) fun H6 e6 => ⟨_, _, _, rfl, ?_, ?_⟩
          · exact ((f4.trans f5.nil).trans (Fr.of_ex e6).nil).mutL (.inl (by simp)) (e6 _ _ e5)
          · rw [upd_same, List.range_succ, List.map_append, nVs_app]
            rfl
      · rintro σ' H4 ⟨v7, v8, v9, rfl, f4, e4⟩
        refine ⟨_, rfl, q fd H4 hfd0 (((f2.trans f3.nil).mono (S' := [lb, fd]) (fun b hb => by simp at hb; simp [hb]) |>.trans (f4.mono fun b hb => by simp at hb; simp [hb])).shrink fun b hb => ?_) e4⟩
        simp at hb
        rcases hb with z | z
        · exact .inr (by rw [z]; exact hlb)
        · exact .inr (by rw [z]; exact hfd0)
/-! ### _law_group_by -/
def spGroupBy : Sp := fun vs H Q _ => ∃ (z : Int) (n : Nat), vs = [.int z, nV n] ∧ Wide z ∧ 0 < n ∧ n ≤ 7 ∧ ∀ L : List Nat, L.Nodup → L ≠ [] → (∀ x, x ∈ L → x < n) → RL (nVs L) H Q
theorem sc_l_group_by : FnScope ["_law_cell", "_law_many", "_law_mix", "_law_group", "_law_work"] ["_law_cell", "_law_many"] (defScope s_l_group_by) := ⟨rfl, rfl, rfl, by decide +kernel, rfl, by decide +kernel, by decide +kernel⟩
theorem ok_l_group_by (T : Tx K mg) : Okf P w K mg base 1 (He.ga K "_law_group_by") ["_law_cell", "_law_many"] spGroupBy := by
  refine okf_of T.df_l_group_by sc_l_group_by (fun _ _ _ _ _ _ us hl => match us, hl with | [_, _], _ => rfl) (fun vs H Q E h => ?_) (fun cdv A outer s H vs Q E hr h => ?_)
  · obtain ⟨z, n, rfl, _⟩ := h
    rfl
  · obtain ⟨z, n, rfl, hz, hn0, hn7, q⟩ := h
    refine ⟨_, pss_cons (ps_set (i := 2) sc_l_group_by.nd rfl (.inr rfl) (pe_op op_mod (pe_op op_mulB (pv 0) pe_int) pe_int))
      (pss_cons (ps_setLc (i := 3) (own := [("_law_work", 4)]) (g := gName 4) (tt := tTest (tOp rEq (tOp (rI (fun _ j => 0 < j) fun i j => .int (i % j)) (tOp (rI CDivW fun i j => .int (i / j)) (tVar 2) (tOp (rI0 fun i j => .int (i + j)) (tC (.int 3)) (tOp (rI CBits fun i j => .int (i * j)) (tC (.int 2)) (tVar 4)))) (tC (.int 2))) (tC (.int 1)))) (te := tVar 4) rfl sc_l_group_by.nd rfl rfl (sw_true rfl rfl rfl rfl) (pi_range1 (by rfl) T.b_range (pa_cons (pv 1) pa_nil)) (blkOk_by (own := [("_law_work", 4)]) (N := ["_law_cell", "_law_many", "_law_mix", "_law_group", "_law_work"]) (sc := defScope s_l_group_by) (by decide +kernel)) (fun _ _ _ _ _ => pg_name (i := 4) sc_l_group_by.nd rfl (Or.inl rfl))
        (fun _ _ _ _ _ => pts_one (pt_cmpR op_eq (pe_op op_mod (pe_op op_fdivW (pv 2) (pe_op op_add pe_int (pe_op op_mulB pe_int (pv 4)))) pe_int) pe_int (nomark _)))
        (fun _ _ _ _ _ => pv 4))
      (Evl.pss_cut (ps_if (pt_cmpR (op_eqD hr.units) (pv 3) (pe_lst pa_nil) (nomark _)) (pss_one (ps_set (i := 3) sc_l_group_by.nd rfl (.inl rfl) (pe_lst (pa_cons (pe_op op_mod (pv 2) (pv 1)) pa_nil)))) pss_nil)
      (Evl.pss_cut (ps_if (pt_cmpR op_eq (pe_op op_mod (pe_op op_fdivW (pv 2) pe_int) pe_int) pe_int (nomark _)) (pss_one (ps_set (i := 3) sc_l_group_by.nd rfl (.inl rfl) (pe_listRev rfl (by rfl) T.b_list (by rfl) T.b_reversed (pv 3)))) pss_nil)
      (pss_one (ps_ret (pv 3)))))), ?_⟩
    obtain ⟨m, em⟩ := toN (Int.emod_nonneg (z * 48271) (b := 2147483647) (by decide))
    refine Evl.q_asg (v := nV m) (Evl.ev_is (Evl.ev_op (Evl.ev_op (Evl.ev_var rfl) Evl.ev_c (Evl.rv_I (i := z) (j := 48271) (hz.cb (n := 20) (by decide) (by decide)))) Evl.ev_c (Evl.rv_I (i := z * 48271) (j := 2147483647) (by show (0 : Int) < 2147483647; decide))) (congrArg V.int em)) fun H1 e1 => ?_
    refine Evl.q_asgL (Evl.el_lcR1 (n := (n : Int)) (fun j => decide (m / (3 + 2 * j) % 2 = 1)) (fun j => nV j) (Evl.ea_cons (Evl.ev_var rfl) Evl.ea_nil) ⟨by omega, by omega⟩ (fun _ => by rfl) (fun j H2 e hj => ?_) (fun j H2 e hj _ => Evl.ev_var rfl)) fun g H2 hg e2 eg => ?_
    · exact et_eqN (b := 1) (ev_modN (b := 2) (ev_divN (b := 3 + 2 * j) (Evl.ev_var rfl) (ev_addN (a := 3) Evl.ev_c (ev_mulN (a := 2) Evl.ev_c (Evl.ev_var rfl) (by decide) (Nat.lt_of_lt_of_le (show j < 100 by omega) (by decide)))) (by omega) (Nat.lt_of_lt_of_le (show 3 + 2 * j < 100 by omega) (by decide))) Evl.ev_c (by decide)) Evl.ev_c
    · have eg2 : H2 g = some (.lst (nVs ((List.range n).filter fun j => decide (m / (3 + 2 * j) % 2 = 1)))) := by
        rw [eg, Int.toNat_natCast]
        rfl
      have F2 : Fr [] H H2 := .of_ex (e1.trans e2)
      have hg0 : H g = none := Evl.fresh_back e1 hg
      have hnd : ((List.range n).filter fun j => decide (m / (3 + 2 * j) % 2 = 1)).Nodup := List.Pairwise.filter _ List.nodup_range
      have hlt : ∀ x, x ∈ ((List.range n).filter fun j => decide (m / (3 + 2 * j) % 2 = 1)) → x < n := fun x hx => List.mem_range.mp (List.mem_filter.mp hx).1
      generalize ((List.range n).filter fun j => decide (m / (3 + 2 * j) % 2 = 1)) = L at eg2 hnd hlt
      have hmn : m % n < n := Nat.mod_lt _ hn0
      refine Evl.q_cut (M := fun σ' H' => ∃ (g : Addr) (L : List Nat) (v4 : Option V), σ' = [some (.int z), some (nV n), some (nV m), some (.ref g), v4] ∧ Fr [] H H' ∧ H g = none ∧ H' g = some (.lst (nVs L)) ∧ L.Nodup ∧ L ≠ [] ∧ ∀ x, x ∈ L → x < n) ?_ ?_
      · refine Evl.s_when (b := L.isEmpty) (Evl.et_test (ev_eqNil (Evl.ev_var rfl) eg2)) (fun hc H3 e3 => ?_) (fun hc H3 e3 => ?_)
        · refine Evl.s_asgL (xs := nVs [m % n]) (Evl.el_lst (Evl.ea_cons (ev_modN (Evl.ev_var rfl) (Evl.ev_var rfl) hn0) Evl.ea_nil) (by show 1 ≤ 100000; omega)) fun p H4 hp e4 ep => ⟨p, [m % n], _, rfl, (F2.trans (.of_ex e3)).trans (.of_ex e4), (F2.trans (.of_ex e3)).free hp, ep, by simp, by simp, fun x hx => by rw [List.mem_singleton.mp hx]; exact hmn⟩
        · refine ⟨g, L, _, rfl, F2.trans (.of_ex e3), hg0, e3 _ _ eg2, hnd, fun e => ?_, hlt⟩
          rw [e] at hc
          cases hc
      · rintro σ3 H3 ⟨g3, L3, v4, rfl, F3, hg3, eg3, hnd3, hne3, hlt3⟩
        refine Evl.q_cut (M := fun σ' H' => ∃ (g : Addr) (L : List Nat) (v4 : Option V), σ' = [some (.int z), some (nV n), some (nV m), some (.ref g), v4] ∧ Fr [] H H' ∧ H g = none ∧ H' g = some (.lst (nVs L)) ∧ L.Nodup ∧ L ≠ [] ∧ ∀ x, x ∈ L → x < n) ?_ ?_
        · refine Evl.s_when (b := decide (m / 5 % 2 = 1)) (et_eqN (b := 1) (ev_modN (b := 2) (ev_divN (b := 5) (Evl.ev_var rfl) Evl.ev_c (by decide) (by decide)) Evl.ev_c (by decide)) Evl.ev_c) (fun hc H4 e4 => ?_) (fun hc H4 e4 => ⟨g3, L3, _, rfl, F3.trans (.of_ex e4), hg3, e4 _ _ eg3, hnd3, hne3, hlt3⟩)
          refine ⟨_, rfl, g3, _, rfl, SqL.of (e4 _ _ eg3), fun p hp => ?_⟩
          refine ⟨p, L3.reverse, _, rfl, (F3.trans (.of_ex e4)).new hp, (F3.trans (.of_ex e4)).free hp, ?_, List.pairwise_reverse.mpr (hnd3.imp Ne.symm), by simpa using hne3, fun x hx => hlt3 x (List.mem_reverse.mp hx)⟩
          rw [upd_same]
          unfold nVs
          rw [List.map_reverse]
        · rintro σ4 H4 ⟨g4, L4, v4, rfl, F4, hg4, eg4, hnd4, hne4, hlt4⟩
          exact ⟨_, rfl, q L4 hnd4 hne4 hlt4 g4 H4 hg4 F4 eg4⟩
end
end RH
/-! The law's helpers: halls made and looked at. -/
namespace RH
open PySem PySem.Spec PyProof.Rows L2
/-! ### lists of names -/
def dS (ns : List Str) : List PyData := ns.map PyData.str
theorem letters_small : ∀ c, c ∈ letters → c < 1114112 := by
  unfold letters
  decide +kernel
theorem strOk_name {x : Str} (h : IsName x) : PyData.strOk x = true := by
  show x.cps.all _ = true
  rw [← Array.all_toList]
  exact List.all_eq_true.mpr fun c hc => decide_eq_true (letters_small c (h.all c hc))
theorem canAll_strs : ∀ ns : List Str, (∀ x, x ∈ ns → IsName x) → PyData.canLayAll0 (dS ns) = true
  | [], _ => rfl
  | n :: r, h => by
    show PyData.canLayAll0 (PyData.str n :: dS r) = true
    simp [PyData.canLayAll0, PyData.canLay0, canAll_strs r fun x hx => h x (List.mem_cons_of_mem _ hx), strOk_name (h n List.mem_cons_self)]
theorem depth_strs : ∀ ns : List Str, PyData.depthAll (dS ns) ≤ 1
  | [] => by simp [dS, PyData.depthAll]
  | n :: r => by
    have ih := depth_strs r
    show PyData.depthAll (PyData.str n :: dS r) ≤ 1
    simp only [PyData.depthAll, PyData.depth]
    omega
theorem shaped_strs {ns : List Str} (hS : ∀ x, x ∈ ns → IsName x) : SeqAt.shaped (.list (dS ns)) = true := by
  have h := depth_strs ns
  have h2 : (PyData.list (dS ns)).canLay0 = true := by
    rw [PyData.canLay0]
    exact canAll_strs ns hS
  have h3 : (PyData.list (dS ns)).depth ≤ 64 := by
    rw [PyData.depth]
    omega
  unfold SeqAt.shaped
  rw [h2, decide_eq_true h3]
  rfl
theorem dpAll_strs {K : PySem.W.Frag} {H : Hp} : ∀ ns : List Str, DpAll K H (ns.map V.str) (dS ns)
  | [] => .nil
  | n :: r => .cons (.str n) (dpAll_strs r)
theorem dp_strs {K : PySem.W.Frag} {H : Hp} {a : Addr} {ns : List Str} (h : H a = some (.lst (ns.map V.str))) : Dp K H (.ref a) (.list (dS ns)) := .lst (SqL.of h) (dpAll_strs ns)
section
open Evl
variable {K : PySem.W.Frag} {σ : L2.St} {H : Hp} {te ta tb tr : TE} {v : V}
/-- a new list of names != another one of the same names -/
theorem ev_neSX {ns : List Str} (hS : ∀ x, x ∈ ns → IsName x) (h1 : EvL ta σ H (ns.map V.str)) (h2 : EvL tb σ H (ns.map V.str)) : Ev (tOp (rNeD K) ta tb) σ H (.bl false) := fun H1 e Q q =>
  h1 H1 e _ fun p H2 hp e2 ep => h2 H2 (e.trans e2) _ fun b H3 hb e3 eb => ⟨_, _, dp_strs (e3 _ _ ep), dp_strs eb, shaped_strs hS, shaped_strs hS, by rw [eqv_self (shaped_strs hS)]; exact q H3 (e2.trans e3)⟩
theorem ev_neS {a : Addr} {ns : List Str} (hS : ∀ x, x ∈ ns → IsName x) (h1 : EvL ta σ H (ns.map V.str)) (h2 : Ev tb σ H (.ref a)) (ha : H a = some (.lst (ns.map V.str))) : Ev (tOp (rNeD K) ta tb) σ H (.bl false) := fun H1 e Q q =>
  h1 H1 e _ fun p H2 hp e2 ep => h2 H2 (e.trans e2) _ fun H3 e3 => ⟨_, _, dp_strs (e3 _ _ ep), dp_strs (e3 _ _ (e2 _ _ (e _ _ ha))), shaped_strs hS, shaped_strs hS, by rw [eqv_self (shaped_strs hS)]; exact q H3 (e2.trans e3)⟩
/-- numbers: a new list != a new list -/
theorem ev_neNX {ns : List Nat} (h1 : EvL ta σ H (nVs ns)) (h2 : EvL tb σ H (nVs ns)) : Ev (tOp (rNeD K) ta tb) σ H (.bl false) := fun H1 e Q q =>
  h1 H1 e _ fun p H2 hp e2 ep => h2 H2 (e.trans e2) _ fun b H3 hb e3 eb => ev_neL (e3 _ _ ep) eb H3 (Ex.refl _) _ fun H4 e4 => q H4 ((e2.trans e3).trans e4)
/-! ### isinstance -/
theorem ev_isi {t : Value} {c : String} {b : Bool} (h : Ev ta σ H v) (ht : ∀ H', Ex H H' → TyX K H' v t) (hk : PySem.W.kitOne K t (.type c) = some b) : Ev (tCB (rIsi K) (tCons ta (tCons (tC (.ty c)) tNil))) σ H (.bl b) := ev_cb (ea_cons h (ea_cons ev_c ea_nil)) fun H1 e Q q => ⟨_, _, _, _, _, rfl, ClsV.ty c, ht H1 e, hk, q H1 (Ex.refl H1)⟩
end
theorem k_ll {K : PySem.W.Frag} : PySem.W.kitOne K (.type "list") (.type "list") = some true := kit_ty (by decide +kernel)
theorem k_tt {K : PySem.W.Frag} : PySem.W.kitOne K (.type "tuple") (.type "tuple") = some true := kit_ty (by decide +kernel)
theorem k_ii {K : PySem.W.Frag} : PySem.W.kitOne K (.type "int") (.type "int") = some true := kit_ty (by decide +kernel)
theorem k_ib {K : PySem.W.Frag} : PySem.W.kitOne K (.type "int") (.type "bool") = some false := kit_ty (by decide +kernel)
section
variable {P : Program} {w : World} {K : PySem.W.Frag} {mg : Str → Option Value} {base : Heap}
/-! ### _law_wholes -/
def spWholes : Sp := fun vs H Q _ => ∃ (a : Addr) (xs : List Nat), vs = [.ref a] ∧ H a = some (.lst (nVs xs)) ∧ RV (.bl true) H Q
theorem sc_l_wholes : FnScope ["_law_found", "_law_number"] ["_law_found"] (defScope s_l_wholes) := ⟨rfl, rfl, rfl, by decide +kernel, rfl, by decide +kernel, by decide +kernel⟩
theorem ok_l_wholes (T : Tx K mg) : Okf P w K mg base 1 (He.ga K "_law_wholes") ["_law_found"] spWholes := by
  refine okf_of T.df_l_wholes sc_l_wholes (fun _ _ _ _ _ _ us hl => match us, hl with | [_], _ => rfl) (fun vs H Q E h => ?_) (fun cdv A outer s H vs Q E hr h => ?_)
  · obtain ⟨a, xs, rfl, _⟩ := h
    rfl
  · obtain ⟨a, xs, rfl, ha, q⟩ := h
    refine ⟨_, pss_cons (ps_if (pt_not (pt_val (pe_callB call_isi (by rfl) T.b_isinstance (by decide +kernel) (pa_cons (pv 0) (pa_cons (pe_bltn (v := .ty "list") (by rfl) T.b_list (by decide +kernel) rfl) pa_nil))))) pss_no pss_nil)
      (pss_cons (ps_for PassesOwn.never rfl (pi_list (pv 0)) (pg_name (i := 1) sc_l_wholes.nd rfl (.inl rfl))
        (pss_one (ps_if (PW.pt (pw_or (pt_not (pt_val (pe_callB call_isi (by rfl) T.b_isinstance (by decide +kernel) (pa_cons (pv 1) (pa_cons (pe_bltn (v := .ty "int") (by rfl) T.b_int (by decide +kernel) rfl) pa_nil))))) (pw_or1 (pt_val (pe_callB call_isi (by rfl) T.b_isinstance (by decide +kernel) (pa_cons (pv 1) (pa_cons (pe_bltn (v := .ty "bool") (by rfl) T.b_bool (by decide +kernel) rfl) pa_nil))))))) pss_no pss_nil)))
      (pss_one (ps_ret pe_bl))), ?_⟩
    refine Evl.q_when (b := !true) (Evl.et_not (Evl.et_B (ev_isi (Evl.ev_var rfl) (fun H' e => .base (.lst (e _ _ ha))) k_ll))) (fun h => by cases h) (fun _ H1 e1 => ?_)
    have ha1 := e1 _ _ ha
    refine ⟨_, rfl, a, rfl, ⟨_, SqL.of ha1⟩, for_list (K := K) (a := a) (xs := nVs xs) (fun i σ' H' => ∃ v1 : Option V, σ' = [some (.ref a), v1] ∧ Fr [] H1 H') ⟨none, rfl, Fr.refl _ _⟩ (fun i σ' H' _ ⟨_, _, f⟩ => SqL.of (f.at_ ha1)) ?_ ?_⟩
    · rintro i y σ' H2 hi ⟨v1, rfl, f2⟩
      obtain ⟨x, hx, rfl⟩ := of_nVs hi
      refine g_go ?_
      refine Evl.s_when (b := !true || false) (Evl.et_or (Evl.et_not (Evl.et_B (ev_isi (Evl.ev_var rfl) (fun H' e => .base (.int _)) k_ii))) fun _ => Evl.et_B (ev_isi (Evl.ev_var rfl) (fun H' e => .base (.int _)) k_ib)) (fun h => by cases h) (fun _ H3 e3 => ⟨_, rfl, f2.trans (.of_ex e3)⟩)
    · rintro σ' H2 ⟨v1, rfl, f2⟩
      exact q H2 ((Fr.of_ex e1).trans f2)
/-! ### _law_made -/
def spMadeL (K : PySem.W.Frag) : Sp := fun vs H Q _ => ∃ (nl bl : Addr) (names : List Str) (bs : List Belt), vs = [.ref nl, .ref bl] ∧ H nl = some (.lst (names.map V.str)) ∧ Bls H bl bs ∧ HallOk names bs ∧
  ∀ (h k1 k2 : Addr) (H' : Hp), H h = none → H k1 = none → H k2 = none → HallAt K H' h k1 k2 names bs → Fr [] H H' → Q (.ref h) H'
theorem sc_l_made : FnScope ["_law_names_here", "_law_belts", "_law_hall", "_law_name", "_law_giver", "_law_taker", "_law_give", "_law_take", "_law_start"] ["_law_names_here", "_law_belts"] (defScope s_l_made) := ⟨rfl, rfl, rfl, by decide +kernel, rfl, by decide +kernel, by decide +kernel⟩
theorem ok_l_made (T : Tx K mg) : Okf P w K mg base 3 (He.ga K "_law_made") ["_law_names_here", "_law_belts"] (spMadeL K) := by
  obtain ⟨fI, GI, kI, bI⟩ := ok_Hall_init (P := P) (w := w) (base := base) T
  obtain ⟨fW, GW, kW, bW⟩ := ok_Hall_work (P := P) (w := w) (base := base) T
  obtain ⟨fL, GL, kL, bL, bL0⟩ := ok_Hall_belt (P := P) (w := w) (base := base) T
  refine okf_of T.df_l_made sc_l_made (fun _ _ _ _ _ _ us hl => match us, hl with | [_, _], _ => rfl) (fun vs H Q E h => ?_) (fun cdv A outer s H vs Q E hr h => ?_)
  · obtain ⟨nl, bl, names, bs, rfl, _⟩ := h
    rfl
  · obtain ⟨nl, bl, names, bs, rfl, hnl, ⟨as, ebl, tps⟩, O, q⟩ := h
    refine ⟨_, pss_cons (ps_set (i := 2) sc_l_made.nd rfl (.inl rfl) (pe_make0 T.mk_Hall GI hr (by rfl) T.g_Hall bI .nil pass0))
      (pss_cons (ps_for PassesOwn.never rfl (pi_list (pv 0)) (pg_name (i := 3) sc_l_made.nd rfl (.inl rfl))
        (pss_one (ps_expr (pe_meth (pv 2) T.cl_Hall T.m_Hall_work GW hr bW .nil pass0 (pa_cons (pv 3) pa_nil)))))
      (pss_cons (ps_for PassesOwn.never rfl (pi_list (pv 1))
          (pg_tup rfl (pgs_cons (pg_name (i := 4) sc_l_made.nd rfl (.inl rfl)) (pgs_cons (pg_name (i := 5) sc_l_made.nd rfl (.inl rfl)) (pgs_cons (pg_name (i := 6) sc_l_made.nd rfl (.inl rfl)) (pgs_cons (pg_name (i := 7) sc_l_made.nd rfl (.inl rfl)) (pgs_cons (pg_name (i := 8) sc_l_made.nd rfl (.inl rfl)) pgs_nil))))))
        (pss_one (ps_expr (pe_meth (pv 2) T.cl_Hall T.m_Hall_belt GL hr bL .nil pass0 (pa_cons (pv 4) (pa_cons (pv 5) (pa_cons (pv 6) (pa_cons (pv 7) (pa_cons (pv 8) pa_nil)))))))))
      (pss_one (ps_ret (pv 2))))), ?_⟩
    have nW : ∀ a b, (hF a b).lookup ("work" : Str) = none := fun a b => hF_no _ _ (by decide +kernel) (by decide +kernel)
    have nL : ∀ a b, (hF a b).lookup ("belt" : Str) = none := fun a b => hF_no _ _ (by decide +kernel) (by decide +kernel)
    intro hh dxp hp hdxp hne
    have g1 : Fr [] H (upd (upd H dxp (.own hh)) hh (.ins (He.ga K "Hall") dxp [])) := (Fr.n0 hdxp).new (by rw [upd_ne hne.symm]; exact hp)
    have ep : (upd (upd H dxp (.own hh)) hh (.ins (He.ga K "Hall") dxp [])) hh = some (.ins (He.ga K "Hall") dxp []) := upd_same
    generalize upd (upd H dxp (.own hh)) hh (.ins (He.ga K "Hall") dxp []) = H2 at g1 ep ⊢
    refine ⟨hh, dxp, rfl, ep, fun H3 k1 k2 hk1 hk2 A3 f3 => ⟨rfl, ?_⟩⟩
    have hk10 := g1.free hk1
    have hk20 := g1.free hk2
    have nk : ∀ {a : Addr} {u : HO}, H a = some u → a ∉ [hh, k1, k2] := fun {a u} e => by
      have n0 : a ≠ hh := ne_of_none e hp
      have n1 : a ≠ k1 := ne_of_none e hk10
      have n2 : a ≠ k2 := ne_of_none e hk20
      simp [n0, n1, n2]
    have F3 : Fr [hh, k1, k2] H H3 := g1.nil.trans (f3.mono fun b hb => by simp at hb; simp [hb])
    have hle := O.le
    have hbl := O.bl
    refine ⟨_, rfl, nl, rfl, ⟨_, SqL.of (F3.kp _ _ hnl (nk hnl))⟩, for_list (K := K) (a := nl) (xs := names.map V.str) (fun i σ' H' => ∃ v3 : Option V, σ' = [some (.ref nl), some (.ref bl), some (.ref hh), v3, none, none, none, none, none] ∧ Fr [hh, k1, k2] H H' ∧ HallAt K H' hh k1 k2 (names.take i) [])
      ⟨none, rfl, F3, A3⟩ (fun i σ' H' _ ⟨_, _, f, _⟩ => SqL.of (f.kp _ _ hnl (nk hnl))) ?_ ?_⟩
    · rintro i y σ' H4 hi ⟨v2, rfl, f4, A4⟩
      obtain ⟨x, hx, rfl⟩ : ∃ x, names[i]? = some x ∧ y = .str x := by
        rw [List.getElem?_map] at hi
        cases e : names[i]? with
        | none => rw [e] at hi; cases hi
        | some x => rw [e] at hi; exact ⟨x, rfl, (Option.some.inj hi).symm⟩
      have hil := (List.getElem?_eq_some_iff.mp hx).1
      obtain ⟨dx4, ep4⟩ := A4.ob
      refine ⟨_, rfl, hh, dx4, _, rfl, ep4, nW _ _, _, rfl, hh, k1, k2, _, _, x, rfl, A4, O.isn _ (List.mem_of_getElem? hx), not_takeS O.nd hx, by rw [List.length_take]; omega, fun H5 A5 f5 => ?_⟩
      refine ⟨_, rfl, f4.trans (f5.mono fun b hb => by simp at hb; simp [hb]), ?_⟩
      rw [take_memS hx]
      exact A5
    · rintro σ' H4 ⟨v2, rfl, f4, A4⟩
      rw [List.length_map, List.take_length] at A4
      have ntl := nk ebl
      refine ⟨_, rfl, bl, rfl, ⟨_, SqL.of (f4.kp _ _ ebl ntl)⟩, for_list (K := K) (a := bl) (xs := rV as) (fun i σ' H' => ∃ (v2 v3 v4 v5 v6 v7 : Option V), σ' = [some (.ref nl), some (.ref bl), some (.ref hh), v2, v3, v4, v5, v6, v7] ∧ Fr [hh, k1, k2] H H' ∧ HallAt K H' hh k1 k2 names (bs.take i))
        ⟨_, _, _, _, _, _, rfl, f4, A4⟩ (fun i σ' H' _ ⟨_, _, _, _, _, _, _, f, _⟩ => SqL.of (f.kp _ _ ebl ntl)) ?_ ?_⟩
      · rintro i y σ' H6 hi ⟨v2, v3, v4, v5, v6, v7, rfl, f6, A6⟩
        obtain ⟨a, ha, rfl⟩ := of_rV hi
        obtain ⟨b, hb, hta⟩ := tps.at_ ha
        have hbm := List.mem_of_getElem? hb
        have hbi := (List.getElem?_eq_some_iff.mp hb).1
        obtain ⟨dx6, ep6⟩ := A6.ob
        refine ⟨a, _, rfl, SqT.of (f6.tp _ _ hta), rfl, _, _, rfl, _, _, rfl, _, _, rfl, _, _, rfl, _, _, rfl, rfl, _, rfl, hh, dx6, _, rfl, ep6, nL _ _, _, rfl, _, rfl, _, rfl, _, rfl, _, rfl, hh, k1, k2, _, _, b, rfl, A6, (O.wi b hbm).1, (O.wi b hbm).2, (O.ps b hbm).1, (O.ps b hbm).2, by rw [List.length_take]; omega, fun H8 A8 f8 => ?_⟩
        refine ⟨_, _, _, _, _, _, rfl, f6.trans (f8.mono fun z hz => by simp at hz; simp [hz]), ?_⟩
        rw [take_memS hb]
        exact A8
      · rintro σ' H6 ⟨v2, v3, v4, v5, v6, v7, rfl, f6, A6⟩
        rw [rV_len, tps.1, List.take_length] at A6
        refine ⟨_, rfl, q hh k1 k2 H6 hp hk10 hk20 A6 (f6.shrink fun b hb => ?_)⟩
        simp at hb
        rcases hb with z | z | z
        · exact .inr (by rw [z]; exact hp)
        · exact .inr (by rw [z]; exact hk10)
        · exact .inr (by rw [z]; exact hk20)
end
end RH
/-! The law's helpers: halls looked at, the joined hall reckoned. -/
namespace RH
open PySem PySem.Spec PyProof.Rows L2
section
open Evl
variable {K : PySem.W.Frag} {σ : L2.St} {H : Hp} {te ta tb tr : TE} {v : V}
def EvB (te : TE) (σ : L2.St) (H : Hp) (bs : List Belt) : Prop := ∀ H1, Ex H H1 → ∀ Q : VK, (∀ p H2, H1 p = none → Ex H1 H2 → Bls H2 p bs → Q (.ref p) H2) → te σ H1 Q
theorem eb_belts {mg : Str → Option Value} (T : Tx K mg) {h l1 l2 : Addr} {names : List Str} {bs : List Belt} (hr : Ev tr σ H (.ref h)) (A : HallAt K H h l1 l2 names bs) : EvB (tMeth (He.ga K "Hall") "belts" (spBelts K) [] E0 tr tNil) σ H bs := fun H1 e Q q =>
  hr H1 e _ fun H2 e2 => by
    have A2 := A.keep (.of_ex (e.trans e2))
    obtain ⟨dx, eh⟩ := A2.ob
    exact ⟨h, dx, _, rfl, eh, hF_no _ _ (by decide +kernel) (by decide +kernel), h, l1, l2, names, bs, rfl, A2, fun p H3 hp f ep => q p H3 (fresh_back e2 hp) (e2.trans f.ex) ep⟩
theorem ev_isiB {bs : List Belt} (h : EvB ta σ H bs) : Ev (tCB (rIsi K) (tCons ta (tCons (tC (.ty "list")) tNil))) σ H (.bl true) := fun H1 e Q q =>
  h H1 e _ fun p H2 hp e2 ⟨as, ep, _⟩ => ⟨_, _, _, _, _, rfl, ClsV.ty "list", .base (.lst ep), k_ll, q H2 e2⟩
theorem ev_lenB {bs : List Belt} (h : EvB ta σ H bs) : Ev (tCB (rLenS K) (tCons ta tNil)) σ H (nV bs.length) := fun H1 e Q q =>
  h H1 e _ fun p H2 hp e2 ⟨as, ep, t⟩ => ⟨p, rV as, rfl, .inl (SqL.of ep), by rw [rV_len, t.1]; exact q H2 e2⟩
theorem ev_lenBl {l : Addr} {bs : List Belt} (h : Ev ta σ H (.ref l)) (hl : Bls H l bs) : Ev (tCB (rLenS K) (tCons ta tNil)) σ H (nV bs.length) := by
  obtain ⟨as, e, t⟩ := hl
  exact ev_is (ev_lenL h e) (by rw [rV_len, t.1])
theorem ev_wholes {xs : List Nat} (h : EvL ta σ H (nVs xs)) : Ev (tCall spWholes [] E0 (tCons ta tNil)) σ H (.bl true) := fun H1 e Q q =>
  h H1 e _ fun p H2 hp e2 ep => ⟨p, xs, rfl, ep, fun H3 f => q H3 (e2.trans f.ex)⟩
theorem el_listT {a : Addr} {xs : List V} (h : Ev ta σ H (.ref a)) (hs : H a = some (.tup xs)) : EvL (tCB (fun xs H Q => ∃ p ys, xs = [V.ref p] ∧ (SqL K H p ys ∨ SqT K H p ys) ∧ ∀ l, H l = none → Q (.ref l) (upd H l (.lst ys))) (tCons ta tNil)) σ H xs := fun H1 e Q q =>
  h H1 e _ fun H2 e2 => ⟨a, xs, rfl, .inr (SqT.of (e2 _ _ (e _ _ hs))), fun l hl => q l _ (fresh_back e2 hl) (e2.trans (Ex.new hl)) upd_same⟩
theorem ev_idx {a : Addr} {M : List Nat} {x : Nat} (h1 : Ev ta σ H (.ref a)) (h2 : Ev tb σ H (nV x)) (ha : H a = some (.lst (nVs M))) (hx : x ∈ M) : Ev (tBM K "list" (rIndex K) ta (tCons tb tNil)) σ H (nV (M.idxOf x)) := fun H1 e Q q =>
  h1 H1 e _ fun H2 e2 => ⟨.inl ⟨rfl, _, SqL.of (e2 _ _ (e _ _ ha))⟩, h2 H2 (e.trans e2) _ fun H3 e3 => ⟨a, nVs M, nV x, M.idxOf x, nV x, rfl, rfl, SqL.of (e3 _ _ (e2 _ _ (e _ _ ha))), rfl, flat_nVs _, nVs_at (at_idx hx), eqV_self _, no_before, q H3 (e2.trans e3)⟩⟩
theorem ret_four {t1 t2 t3 t4 : TE} {D : Ends} {xs : List V} {v2 v3 v4 : V} (h1 : EvL t1 σ H xs) (h2 : Ev t2 σ H v2) (h3 : Ev t3 σ H v3) (h4 : Ev t4 σ H v4) (k : ∀ (a p : Addr) (H' : Hp), H p = none → H' p = some (.tup [.ref a, v2, v3, v4]) → H' a = some (.lst xs) → Ex H H' → D.rt (.ref p) H') :
    tRet (tTup (tCons t1 (tCons t2 (tCons t3 (tCons t4 tNil))))) D σ H := h1 H (Ex.refl H) _ fun a H1 ha e1 ea => h2 H1 e1 _ fun H2 e2 => h3 H2 (e1.trans e2) _ fun H3 e3 => h4 H3 ((e1.trans e2).trans e3) _ fun H4 e4 =>
  ⟨small_line (by show 4 ≤ 100000; omega), fun p hp => k a p _ (fresh_back (((e1.trans e2).trans e3).trans e4) hp) upd_same ((Ex.new hp) _ _ (e4 _ _ (e3 _ _ (e2 _ _ ea)))) ((((e1.trans e2).trans e3).trans e4).trans (Ex.new hp))⟩
end
def bN (b : Belt) : List Nat := [b.g, b.t, b.gv, b.tk, b.st]
theorem bV_bN (b : Belt) : bV b = nVs (bN b) := rfl
section
variable {P : Program} {w : World} {K : PySem.W.Frag} {mg : Str → Option Value} {base : Heap}
/-! ### _law_hall_good -/
def spGood (K : PySem.W.Frag) : Sp := fun vs H Q _ => ∃ (h nl bl l1 l2 : Addr) (names : List Str) (bs : List Belt), vs = [.ref h, .ref nl, .ref bl] ∧ HallAt K H h l1 l2 names bs ∧ H nl = some (.lst (names.map V.str)) ∧ Bls H bl bs ∧ (∀ x, x ∈ names → IsName x) ∧ RV (.bl true) H Q
theorem sc_l_hall_good : FnScope ["_law_hall", "_law_names_here", "_law_belts", "_law_found", "_law_belt"] ["_law_hall", "_law_names_here", "_law_belts"] (defScope s_l_hall_good) := ⟨rfl, rfl, rfl, by decide +kernel, rfl, by decide +kernel, by decide +kernel⟩
theorem ok_l_hall_good (T : Tx K mg) : Okf P w K mg base 2 (He.ga K "_law_hall_good") ["_law_hall", "_law_names_here", "_law_belts"] (spGood K) := by
  obtain ⟨fN, GN, kN', bN'⟩ := ok_Hall_names (P := P) (w := w) (base := base) T
  obtain ⟨fB, GB, kB, bB⟩ := ok_Hall_belts (P := P) (w := w) (base := base) T
  obtain ⟨fW, GW, kW, bW⟩ := ok_l_wholes (P := P) (w := w) (base := base) T
  refine okf_of T.df_l_hall_good sc_l_hall_good (fun _ _ _ _ _ _ us hl => match us, hl with | [_, _, _], _ => rfl) (fun vs H Q E h => ?_) (fun cdv A outer s H vs Q E hr h => ?_)
  · obtain ⟨h, nl, bl, l1, l2, names, bs, rfl, _⟩ := h
    rfl
  · obtain ⟨h, nl, bl, l1, l2, names, bs, rfl, A0, hnl, hbl, hS, q⟩ := h
    refine ⟨_, pss_cons (ps_if (PW.pt (pw_or (pt_cmpR (op_neD hr.units) (pe_meth0 (pv 0) T.cl_Hall T.m_Hall_names GN hr bN' .nil pass0) (pv 1) (nomark _))
        (pw_or (pt_not (pt_val (pe_callB call_isi (by rfl) T.b_isinstance (by decide +kernel) (pa_cons (pe_meth0 (pv 0) T.cl_Hall T.m_Hall_belts GB hr bB .nil pass0) (pa_cons (pe_bltn (v := .ty "list") (by rfl) T.b_list (by decide +kernel) rfl) pa_nil)))))
        (pw_or1 (pt_cmpR op_ne (pe_callB call_len_seq (by rfl) T.b_len PySem.boot_len (pa_cons (pe_meth0 (pv 0) T.cl_Hall T.m_Hall_belts GB hr bB .nil pass0) pa_nil)) (pe_callB call_len_seq (by rfl) T.b_len PySem.boot_len (pa_cons (pv 2) pa_nil)) (nomark _)))))) pss_no pss_nil)
      (pss_cons (ps_for PassesOwn.never rfl (pi_zip (by rfl) T.b_zip (pa_cons (pe_meth0 (pv 0) T.cl_Hall T.m_Hall_belts GB hr bB .nil pass0) (pa_cons (pv 2) pa_nil)))
        (pg_tup rfl (pgs_cons (pg_name (i := 3) sc_l_hall_good.nd rfl (.inl rfl)) (pgs_cons (pg_name (i := 4) sc_l_hall_good.nd rfl (.inl rfl)) pgs_nil)))
        (pss_one (ps_if (PW.pt (pw_or (pt_not (pt_val (pe_callB call_isi (by rfl) T.b_isinstance (by decide +kernel) (pa_cons (pv 3) (pa_cons (pe_bltn (v := .ty "tuple") (by rfl) T.b_tuple (by decide +kernel) rfl) pa_nil)))))
          (pw_or (pt_not (pt_val (pe_call GW hr (by rfl) T.g_l_wholes kW bW .nil pass0 (pa_cons (pe_callTy call_list_of (by rfl) T.b_list (by decide +kernel) (pa_cons (pv 3) pa_nil)) pa_nil))))
          (pw_or1 (pt_cmpR (op_neD hr.units) (pv 3) (pv 4) (nomark _)))))) pss_no pss_nil)))
      (pss_one (ps_ret pe_bl))), ?_⟩
    refine Evl.q_when (b := false || (!true || !decide (bs.length = bs.length))) ?_ (fun h => by simp at h) (fun _ H1 e1 => ?_)
    · refine Evl.et_or (Evl.et_test (ev_neS hS (el_names T (Evl.ev_var rfl) A0) (Evl.ev_var rfl) hnl)) fun _ => Evl.et_or (Evl.et_not (Evl.et_B (ev_isiB (eb_belts T (Evl.ev_var rfl) A0)))) fun _ => et_neN (ev_lenB (eb_belts T (Evl.ev_var rfl) A0)) (ev_lenBl (Evl.ev_var rfl) hbl)
    · have f1 : Fr [] H H1 := .of_ex e1
      have A1 := A0.keep f1
      obtain ⟨dx, eh⟩ := A1.ob
      have nB : (hF l1 l2).lookup ("belts" : Str) = none := hF_no _ _ (by decide +kernel) (by decide +kernel)
      refine ⟨_, rfl, h, dx, _, rfl, eh, nB, h, l1, l2, names, bs, rfl, A1, fun b2 H2 hb2 f2 ⟨as2, e2, tp2⟩ => ?_⟩
      obtain ⟨as, ebl, tps⟩ := (hbl.kept f1 (by simp)).kept f2 (by simp)
      refine ⟨_, rfl, b2, bl, _, _, rfl, SqL.of e2, SqL.of ebl, RZ.for_zipL (xs := rV as2) (ys := rV as) (by rw [rV_len, rV_len, tp2.1, tps.1]) (fun i σ' H' => ∃ v3 v4 : Option V, σ' = [some (.ref h), some (.ref nl), some (.ref bl), v3, v4] ∧ Fr [] H2 H') ⟨none, none, rfl, Fr.refl _ _⟩ (fun i σ' H' ⟨_, _, _, f⟩ => ⟨SqL.of (f.at_ e2), SqL.of (f.at_ ebl)⟩) ?_ ?_⟩
      · rintro i x y T0 σ' H3 hx hy ⟨v3, v4, rfl, f3⟩ hT0
        obtain ⟨a, ha, rfl⟩ := of_rV hx
        obtain ⟨c, hc, rfl⟩ := of_rV hy
        obtain ⟨b, hb, hta⟩ := tp2.at_ ha
        obtain ⟨b', hb', htc⟩ := tps.at_ hc
        have eb : b = b' := Option.some.inj (hb.symm.trans hb')
        subst eb
        have f4 : Fr [] H2 (upd H3 T0 (.tup [.ref a, .ref c])) := f3.new hT0
        refine ⟨T0, _, rfl, SqT.of upd_same, rfl, _, _, rfl, _, _, rfl, rfl, ?_⟩
        have ha4 := f4.tp _ _ hta
        have hc4 := f4.tp _ _ htc
        generalize upd H3 T0 (.tup [.ref a, .ref c]) = H4 at f4 ha4 hc4 ⊢
        rw [bV_bN] at ha4 hc4
        refine Evl.s_when (b := !true || (!true || false)) ?_ (fun h => by simp at h) (fun _ H5 e5 => ⟨_, _, rfl, f4.trans (.of_ex e5)⟩)
        exact Evl.et_or (Evl.et_not (Evl.et_B (ev_isi (Evl.ev_var rfl) (fun H' e => .base (.tup (e _ _ ha4))) k_tt))) fun _ => Evl.et_or (Evl.et_not (Evl.et_B (ev_wholes (el_listT (Evl.ev_var rfl) ha4)))) fun _ => Evl.et_test (Evl.ev_op (Evl.ev_var rfl) (Evl.ev_var rfl) (ev_neT ha4 hc4))
      · rintro σ' H3 ⟨v3, v4, rfl, f3⟩
        exact q H3 ((f1.trans f2).trans f3)
end
end RH
/-! The law's helpers: the joined hall reckoned. -/
namespace RH
open PySem PySem.Spec PyProof.Rows L2
theorem kept_test {M : List Nat} {j : Nat} (hd : M.Nodup) (hne : M ≠ []) : (decide (j = nth M 0) || !decide (j ∈ M)) = !decide (j ∈ M.drop 1) := by
  cases M with
  | nil => exact absurd rfl hne
  | cons a r =>
    have e : nth (a :: r) 0 = a := rfl
    rw [e]
    show (decide (j = a) || !decide (j ∈ a :: r)) = !decide (j ∈ r)
    have hn := (List.nodup_cons.mp hd).1
    by_cases z : j = a
    · subst z
      simp [hn]
    · simp [z]
section
variable {P : Program} {w : World} {K : PySem.W.Frag} {mg : Str → Option Value} {base : Heap}
def spJoinedL : Sp := fun vs H Q _ => ∃ (nl bl rl gl : Addr) (names : List Str) (bs : List Belt) (r L M : List Nat), vs = [.ref nl, .ref bl, .ref rl, .ref gl] ∧ H nl = some (.lst (names.map V.str)) ∧ Bls H bl bs ∧ H rl = some (.lst (nVs r)) ∧ H gl = some (.lst (nVs L)) ∧
  Rts names.length bs r ∧ names.length ≤ 20 ∧ bs.length ≤ 50 ∧ Grp names.length M ∧ M.Perm L ∧ M.Pairwise (· < ·) ∧
  ∀ (p a1 a2 a3 : Addr) (H' : Hp), H p = none → H' p = some (.tup [.ref a1, .ref a2, .ref a3, nV ((keptL names.length M).idxOf (nth M 0))]) → H' a1 = some (.lst ((calledL names M).map V.str)) → Bls H' a2 (tiedL names.length M (tnOf r M) bs) → H' a3 = some (.lst (nVs (dueL names.length M r))) → Fr [] H H' → Q (.ref p) H'
theorem sc_l_joined : FnScope ["_law_names_here", "_law_belts", "_law_rates", "_law_group", "_law_members", "_law_common_here", "_law_work", "_law_kept", "_law_tied", "_law_giver", "_law_taker", "_law_give", "_law_take", "_law_start", "_law_due"] ["_law_names_here", "_law_belts", "_law_rates", "_law_group"] (defScope s_l_joined) := ⟨rfl, rfl, rfl, by decide +kernel, rfl, by decide +kernel, by decide +kernel⟩
theorem ok_l_joined (T : Tx K mg) : Okf P w K mg base 2 (He.ga K "_law_joined") ["_law_names_here", "_law_belts", "_law_rates", "_law_group"] spJoinedL := by
  obtain ⟨fC, GC, kC, bC⟩ := ok_l_common (P := P) (w := w) (base := base) T
  refine okf_of T.df_l_joined sc_l_joined (fun _ _ _ _ _ _ us hl => match us, hl with | [_, _, _, _], _ => rfl) (fun vs H Q E h => ?_) (fun cdv A outer s H vs Q E hr h => ?_)
  · obtain ⟨nl, bl, rl, gl, names, bs, r, L, M, rfl, _⟩ := h
    rfl
  · obtain ⟨nl, bl, rl, gl, names, bs, r, L, M, rfl, hnl, hbl, hrl, hgl, Rs, hn, hbl50, G, hM, hMs, q⟩ := h
    refine ⟨_, pss_cons (ps_set (i := 4) sc_l_joined.nd rfl (.inr rfl) (pe_callB cr_sortedI (by rfl) T.b_sorted (by decide +kernel) (pa_cons (pv 3) pa_nil)))
      (pss_cons (ps_set (i := 5) sc_l_joined.nd rfl (.inl rfl) pe_int)
      (pss_cons (ps_for PassesOwn.never rfl (pi_list (pv 4)) (pg_name (i := 6) sc_l_joined.nd rfl (.inl rfl))
        (pss_one (ps_set (i := 5) sc_l_joined.nd rfl (.inl rfl) (pe_call GC hr (by rfl) T.g_l_common kC bC .nil pass0 (pa_cons (pv 5) (pa_cons (pe_ix ix_list (pv 2) (pv 6) (fun _ _ => rfl)) pa_nil))))))
      (pss_cons (ps_setLc (i := 7) (own := [("_law_work", 6)]) (g := gName 6) (tt := tOr (tTest (tOp rEq (tVar 6) (tOp (rIxL K) (tVar 4) (tC (.int 0))))) (tTest (tOp (rIn K true) (tVar 6) (tVar 4)))) (te := tVar 6) rfl sc_l_joined.nd rfl rfl (sw_true rfl rfl rfl rfl) (pi_range1 (by rfl) T.b_range (pa_cons (pe_callB call_len_seq (by rfl) T.b_len PySem.boot_len (pa_cons (pv 0) pa_nil)) pa_nil)) (blkOk_by (own := [("_law_work", 6)]) (N := ["_law_names_here", "_law_belts", "_law_rates", "_law_group", "_law_members", "_law_common_here", "_law_work", "_law_kept", "_law_tied", "_law_giver", "_law_taker", "_law_give", "_law_take", "_law_start", "_law_due"]) (sc := defScope s_l_joined) (by decide +kernel)) (fun _ _ _ _ _ => pg_name (i := 6) sc_l_joined.nd rfl (Or.inl rfl))
        (fun _ _ _ _ _ => pts_one (PW.pt (pw_or (pt_cmpR op_eq (pv 6) (pe_ix ix_list (pv 4) pe_int (fun _ _ => rfl)) (nomark _)) (pw_or1 (pt_cmpR op_notIn_seq (pv 6) (pv 4) (by rfl))))))
        (fun _ _ _ _ _ => pv 6))
      (pss_cons (ps_set (i := 8) sc_l_joined.nd rfl (.inl rfl) (pe_lst pa_nil))
      (pss_cons (ps_for PassesOwn.never rfl (pi_list (pv 1))
          (pg_tup rfl (pgs_cons (pg_name (i := 9) sc_l_joined.nd rfl (.inl rfl)) (pgs_cons (pg_name (i := 10) sc_l_joined.nd rfl (.inl rfl)) (pgs_cons (pg_name (i := 11) sc_l_joined.nd rfl (.inl rfl)) (pgs_cons (pg_name (i := 12) sc_l_joined.nd rfl (.inl rfl)) (pgs_cons (pg_name (i := 13) sc_l_joined.nd rfl (.inl rfl)) pgs_nil))))))
        (pss_one (ps_if (PW.pt (pw_or (pt_cmpR op_notIn_seq (pv 9) (pv 4) (by rfl)) (pw_or1 (pt_cmpR op_notIn_seq (pv 10) (pv 4) (by rfl)))))
          (Evl.pss_cut (ps_if (pt_cmpR op_in_seq (pv 9) (pv 4) (by rfl)) (pss_cons (ps_set (i := 11) sc_l_joined.nd rfl (.inl rfl) (pe_op op_fdivW (pe_op op_mulB (pv 11) (pe_ix ix_list (pv 2) (pv 9) (fun _ _ => rfl))) (pv 5))) (pss_one (ps_set (i := 9) sc_l_joined.nd rfl (.inl rfl) (pe_ix ix_list (pv 4) pe_int (fun _ _ => rfl))))) pss_nil)
          (Evl.pss_cut (ps_if (pt_cmpR op_in_seq (pv 10) (pv 4) (by rfl)) (pss_cons (ps_set (i := 12) sc_l_joined.nd rfl (.inl rfl) (pe_op op_fdivW (pe_op op_mulB (pv 12) (pe_ix ix_list (pv 2) (pv 10) (fun _ _ => rfl))) (pv 5))) (pss_one (ps_set (i := 10) sc_l_joined.nd rfl (.inl rfl) (pe_ix ix_list (pv 4) pe_int (fun _ _ => rfl))))) pss_nil)
          (pss_one (ps_expr (pe_bm PySem.F.plainAttrs_list PySem.F.slot_list_append PySem.F.type_list_append mt_append (pv 8) (pa_cons (pe_tup (pa_cons (pe_bm PySem.F.plainAttrs_list PySem.F.slot_list_index PySem.F.type_list_index mt_index (pv 7) (pa_cons (pv 9) pa_nil)) (pa_cons (pe_bm PySem.F.plainAttrs_list PySem.F.slot_list_index PySem.F.type_list_index mt_index (pv 7) (pa_cons (pv 10) pa_nil)) (pa_cons (pv 11) (pa_cons (pv 12) (pa_cons (pv 13) pa_nil)))))) pa_nil))))))
          pss_nil)))
      (pss_cons (ps_setLc (i := 14) (own := [("_law_work", 6)]) (g := gName 6) (tt := tYes) (te := tOp (rIxL K) (tVar 2) (tVar 6)) rfl sc_l_joined.nd rfl rfl (sw_true rfl rfl rfl rfl) (pi_list (pv 7)) (blkOk_by (own := [("_law_work", 6)]) (N := ["_law_names_here", "_law_belts", "_law_rates", "_law_group", "_law_members", "_law_common_here", "_law_work", "_law_kept", "_law_tied", "_law_giver", "_law_taker", "_law_give", "_law_take", "_law_start", "_law_due"]) (sc := defScope s_l_joined) (by decide +kernel)) (fun _ _ _ _ _ => pg_name (i := 6) sc_l_joined.nd rfl (Or.inl rfl)) (fun _ _ _ _ _ => pts_nil)
        (fun _ _ _ _ _ => pe_ix ix_list (pv 2) (pv 6) (fun _ _ => rfl)))
      (pss_cons (ps_asg (pv 5) (pg_sub (pv 14) (pe_bm PySem.F.plainAttrs_list PySem.F.slot_list_index PySem.F.type_list_index mt_index (pv 7) (pa_cons (pe_ix ix_list (pv 4) pe_int (fun _ _ => rfl)) pa_nil)) set_list))
      (pss_one (ps_ret (pe_tup (pa_cons (pe_lc (own := [("_law_work", 6)]) (g := gName 6) (tt := tYes) (te := tOp (rIxL K) (tVar 0) (tVar 6)) rfl sc_l_joined.nd (pi_list (pv 7)) (blkOk_by (own := [("_law_work", 6)]) (N := ["_law_names_here", "_law_belts", "_law_rates", "_law_group", "_law_members", "_law_common_here", "_law_work", "_law_kept", "_law_tied", "_law_giver", "_law_taker", "_law_give", "_law_take", "_law_start", "_law_due"]) (sc := defScope s_l_joined) (by decide +kernel)) (fun _ _ _ _ _ => pg_name (i := 6) sc_l_joined.nd rfl (Or.inl rfl)) (fun _ _ _ _ _ => pts_nil)
          (fun _ _ _ _ _ => pe_ix ix_list (pv 0) (pv 6) (fun _ _ => rfl))) (pa_cons (pv 8) (pa_cons (pv 14) (pa_cons (pe_bm PySem.F.plainAttrs_list PySem.F.slot_list_index PySem.F.type_list_index mt_index (pv 7) (pa_cons (pe_ix ix_list (pv 4) pe_int (fun _ _ => rfl)) pa_nil)) pa_nil)))))))))))))), ?_⟩
    have hLnd := hM.nodup_iff.mp G.nd
    have hMl : M.length ≤ names.length := nodup_le G.nd G.lt
    have hM0 : 0 < M.length := List.length_pos_iff.mpr G.ne
    have hrn : r.length = names.length := Rs.len
    refine ⟨_, rfl, gl, _, rfl, by rw [← nVs_eq]; exact SqL.of hgl, fun ys m hp hs hm => ?_⟩
    obtain ⟨M', rfl, hM'⟩ := perm_nat hp
    have hMs' := sorted_lt (hM'.nodup_iff.mpr hLnd) hs
    have eM : M' = M := List.Perm.eq_of_pairwise (le := fun a b => a < b) (fun a b _ _ h1 h2 => by omega) hMs' hMs (hM'.trans hM.symm)
    subst eM
    rw [← nVs_eq]
    have f1 : Fr [] H (upd H m (.lst (nVs M'))) := Fr.n0 hm
    have em : (upd H m (.lst (nVs M'))) m = some (.lst (nVs M')) := upd_same
    generalize upd H m (.lst (nVs M')) = H1 at f1 em ⊢
    have hrl1 := f1.at_ hrl
    refine ⟨_, rfl, m, rfl, ⟨_, SqL.of em⟩, for_list (K := K) (a := m) (xs := nVs M') (fun i σ' H' => ∃ v6 : Option V, σ' = [some (.ref nl), some (.ref bl), some (.ref rl), some (.ref gl), some (.ref m), some (nV (((M'.map (nth r)).take i).foldl Nat.gcd 0)), v6, none, none, none, none, none, none, none, none] ∧ H' = H1)
      ⟨none, rfl, rfl⟩ (fun i σ' H' _ ⟨_, _, e⟩ => by rw [e]; exact SqL.of em) ?_ ?_⟩
    · rintro i y σ' H' hi ⟨v6, rfl, rfl⟩
      obtain ⟨x, hx, rfl⟩ := of_nVs hi
      have hxn := G.lt x (List.mem_of_getElem? hx)
      refine ⟨_, rfl, _, rfl, _, rfl, rl, _, x, _, rfl, rfl, SqL.of hrl1, atI_nat (j := x) (nVs_nth (by omega)), _, nth r x, rfl, some (nV x), ?_, rfl⟩
      rw [foldl_take _ _ (show (M'.map (nth r))[i]? = some (nth r x) by rw [List.getElem?_map, hx]; rfl)]
      rfl
    · rintro σ' H' ⟨v6, rfl, rfl⟩
      have eg : ((M'.map (nth r)).take (nVs M').length).foldl Nat.gcd 0 = gcdL (M'.map (nth r)) := by
        rw [List.take_of_length_le (by rw [nVs_len, List.length_map]; omega)]
        rfl
      rw [eg]
      have hg0 : 0 < gcdL (M'.map (nth r)) := gcdL_pos (List.mem_map_of_mem G.f) (Rs.pos _ (G.lt _ G.f))
      have hg6 : gcdL (M'.map (nth r)) ≤ 6 := Nat.le_trans (Nat.le_of_dvd (Rs.pos _ (G.lt _ G.f)) (gcdL_dvd (List.mem_map_of_mem G.f))) (Rs.le6 _ (G.lt _ G.f))
      have hcd : ∀ {x}, x ∈ M' → gcdL (M'.map (nth r)) ∣ nth r x := fun {x} hx => gcdL_dvd (List.mem_map_of_mem hx)
      have etn : ∀ {x a : Nat}, x ∈ M' → a * nth r x / gcdL (M'.map (nth r)) = a * tnOf r M' x := fun {x a} hx => Nat.mul_div_assoc a (hcd hx)
      generalize hc : gcdL (M'.map (nth r)) = c at hg0 hg6 etn
      -- kept
      refine Evl.q_asgL (Evl.el_lcR1 (n := ((names.map V.str).length : Int)) (fun j => decide (j = nth M' 0) || !decide (j ∈ M')) (fun j => nV j) (Evl.ea_cons (ev_lenL (Evl.ev_var rfl) (f1.at_ hnl)) Evl.ea_nil) ⟨by omega, by rw [List.length_map]; omega⟩ (fun _ => by rfl) (fun j H1 e hj => ?_) (fun j H1 e hj _ => Evl.ev_var rfl)) (fun kl H2 hkl e2 ek => ?_)
      · exact Evl.et_or (et_eqN (Evl.ev_var rfl) (ev_ixL (j := 0) (Evl.ev_var rfl) Evl.ev_c (e _ _ em) (nVs_nth hM0))) fun _ => Evl.et_test (ev_notInN (Evl.ev_var rfl) (Evl.ev_var rfl) (e _ _ em))
      · have ek2 : H2 kl = some (.lst (nVs (keptL names.length M'))) := by
          rw [ek, List.length_map, Int.toNat_natCast]
          unfold Evl.given keptL nVs
          rw [List.filter_congr fun j _ => kept_test G.nd G.ne]
        have f2 : Fr [] H' H2 := .of_ex e2
        refine ⟨Nat.zero_le _, fun tl htl => ?_⟩
        have f3 : Fr [] H2 (upd H2 tl (.lst [])) := Fr.n0 htl
        have et3 : (upd H2 tl (.lst [])) tl = some (.lst (rV [])) := upd_same
        have F2 := f1.trans f2
        have F3 := F2.trans f3
        have htl0 := F2.free htl
        have nt : ∀ {a : Addr} {u : HO}, H2 a = some u → a ∉ [tl] := fun {a u} e => by
          have := ne_of_none e htl
          simpa using this
        have em2 := f2.at_ em
        have hrl2 := f2.at_ hrl1
        have hnl2 := F2.at_ hnl
        obtain ⟨as, ebl2, tps2⟩ := hbl.kept F2 (by simp)
        generalize upd H2 tl (.lst []) = H3 at f3 et3 F3 ⊢
        have em3 := f3.at_ em2
        have hrl3 := f3.at_ hrl2
        have ebl3 := f3.at_ ebl2
        have ek3 := f3.at_ ek2
        have tps3 := tps2.mono f3
        refine ⟨_, rfl, bl, rfl, ⟨_, SqL.of ebl3⟩, for_list (K := K) (a := bl) (xs := rV as) (fun i σ' H4 => ∃ (ts : List Addr) (v9 v10 v11 v12 v13 : Option V), σ' = [some (.ref nl), some (.ref bl), some (.ref rl), some (.ref gl), some (.ref m), some (nV c), v6, some (.ref kl), some (.ref tl), v9, v10, v11, v12, v13, none] ∧ Fr [tl] H3 H4 ∧ H4 tl = some (.lst (rV ts)) ∧ Tups H4 ts (tiedL names.length M' (tnOf r M') (bs.take i)))
          ⟨[], none, none, none, none, none, rfl, Fr.refl _ _, et3, ⟨rfl, fun i a b h => by simp at h⟩⟩ (fun i σ' H' _ ⟨_, _, _, _, _, _, _, f, _⟩ => SqL.of (f.kp _ _ ebl3 (nt ebl2))) ?_ ?_⟩
        · rintro i y σ' H13 hi ⟨ts, v9, v10, v11, v12, v13, rfl, f13, et13, tp13⟩
          obtain ⟨a, ha, rfl⟩ := of_rV hi
          obtain ⟨b, hb, hta⟩ := tps3.at_ ha
          have hbm := List.mem_of_getElem? hb
          have hbi := (List.getElem?_eq_some_iff.mp hb).1
          obtain ⟨hgn, htn, hgv, htk, hgv2, htk2, _⟩ := Rs.bel b hbm
          refine ⟨a, _, rfl, SqT.of (f13.tp _ _ hta), rfl, _, _, rfl, _, _, rfl, _, _, rfl, _, _, rfl, _, _, rfl, rfl, ?_⟩
          have em13 := f13.kp _ _ em3 (nt em2)
          have hrl13 := f13.kp _ _ hrl3 (nt hrl2)
          have ek13 := f13.kp _ _ ek3 (nt ek2)
          have big : ∀ {x : Nat}, x < 2 ^ 100 → x < 2 ^ 200 := fun {x} hx => Nat.lt_of_lt_of_le hx (by decide)
          have b200 : ∀ {x : Nat}, x ≤ 10 → x < 2 ^ 200 := fun {x} hx => Nat.lt_of_le_of_lt hx (by decide)
          refine Evl.s_when (b := !decide (b.g ∈ M') || !decide (b.t ∈ M')) (Evl.et_or (Evl.et_test (ev_notInN (Evl.ev_var rfl) (Evl.ev_var rfl) em13)) fun _ => Evl.et_test (ev_notInN (Evl.ev_var rfl) (Evl.ev_var rfl) em13)) (fun hcc H14 e14 => ?_) (fun hcc H14 e14 => ?_)
          · have hin : inM M' b = false := by
              unfold inM
              rw [← Bool.not_and] at hcc
              exact Bool.not_eq_true' _ ▸ hcc
            refine Evl.q_cut (M := fun σ' H' => σ' = [some (.ref nl), some (.ref bl), some (.ref rl), some (.ref gl), some (.ref m), some (nV c), v6, some (.ref kl), some (.ref tl), some (nV (if b.g ∈ M' then nth M' 0 else b.g)), some (nV b.t), some (nV (if b.g ∈ M' then b.gv * tnOf r M' b.g else b.gv)), some (nV b.tk), some (nV b.st), none] ∧ Evl.Ex H13 H') ?_ ?_
            · refine Evl.s_when (b := decide (b.g ∈ M')) (Evl.et_test (ev_inN (Evl.ev_var rfl) (Evl.ev_var rfl) (e14 _ _ em13))) (fun hc2 H15 e15 => ?_) (fun hc2 H15 e15 => ?_)
              · have hgM := of_decide_eq_true hc2
                have ex15 := e14.trans e15
                refine Evl.q_asg (v := nV (b.gv * nth r b.g / c)) (ev_divN (ev_mulN (Evl.ev_var rfl) (ev_ixN (Evl.ev_var rfl) (Evl.ev_var rfl) (ex15 _ _ hrl13) (by omega)) (big hgv2) (b200 (by have := Rs.le6 _ hgn; omega))) (Evl.ev_var rfl) hg0 (b200 (by omega))) (fun H16 e16 => ?_)
                refine Evl.s_asg (ev_ixL (j := 0) (Evl.ev_var rfl) Evl.ev_c (e16 _ _ (ex15 _ _ em13)) (nVs_nth hM0)) (fun H17 e17 => ⟨?_, (ex15.trans e16).trans e17⟩)
                rw [if_pos hgM, if_pos hgM, etn hgM]
                rfl
              · have hgM := of_decide_eq_false hc2
                exact ⟨by rw [if_neg hgM, if_neg hgM]; rfl, e14.trans e15⟩
            · rintro σ6 H15 ⟨rfl, ex15⟩
              refine Evl.q_cut (M := fun σ' H' => σ' = [some (.ref nl), some (.ref bl), some (.ref rl), some (.ref gl), some (.ref m), some (nV c), v6, some (.ref kl), some (.ref tl), some (nV (if b.g ∈ M' then nth M' 0 else b.g)), some (nV (if b.t ∈ M' then nth M' 0 else b.t)), some (nV (if b.g ∈ M' then b.gv * tnOf r M' b.g else b.gv)), some (nV (if b.t ∈ M' then b.tk * tnOf r M' b.t else b.tk)), some (nV b.st), none] ∧ Evl.Ex H13 H') ?_ ?_
              · refine Evl.s_when (b := decide (b.t ∈ M')) (Evl.et_test (ev_inN (Evl.ev_var rfl) (Evl.ev_var rfl) (ex15 _ _ em13))) (fun hc2 H16 e16 => ?_) (fun hc2 H16 e16 => ?_)
                · have hgM := of_decide_eq_true hc2
                  have ex16 := ex15.trans e16
                  refine Evl.q_asg (v := nV (b.tk * nth r b.t / c)) (ev_divN (ev_mulN (Evl.ev_var rfl) (ev_ixN (Evl.ev_var rfl) (Evl.ev_var rfl) (ex16 _ _ hrl13) (by omega)) (big htk2) (b200 (by have := Rs.le6 _ htn; omega))) (Evl.ev_var rfl) hg0 (b200 (by omega))) (fun H17 e17 => ?_)
                  refine Evl.s_asg (ev_ixL (j := 0) (Evl.ev_var rfl) Evl.ev_c (e17 _ _ (ex16 _ _ em13)) (nVs_nth hM0)) (fun H18 e18 => ⟨?_, (ex16.trans e17).trans e18⟩)
                  rw [if_pos hgM, if_pos hgM, etn hgM]
                  rfl
                · have hgM := of_decide_eq_false hc2
                  exact ⟨by rw [if_neg hgM, if_neg hgM], ex15.trans e16⟩
              · rintro σ7 H16 ⟨rfl, ex16⟩
                have hgk := phi_kept G hgn
                have htk' := phi_kept G htn
                have ek16 := ex16 _ _ ek13
                have et16 := ex16 _ _ et13
                refine ⟨_, rfl, .inl ⟨rfl, _, SqL.of et16⟩, _, rfl, .inl ⟨rfl, _, SqL.of ek16⟩, _, rfl, kl, _, _, _, _, rfl, rfl, SqL.of ek16, rfl, flat_nVs _, nVs_at (at_idx hgk), eqV_self _, no_before, ?_⟩
                refine ⟨_, rfl, .inl ⟨rfl, _, SqL.of ek16⟩, _, rfl, kl, _, _, _, _, rfl, rfl, SqL.of ek16, rfl, flat_nVs _, nVs_at (at_idx htk'), eqV_self _, no_before, ?_⟩
                refine ⟨_, rfl, _, rfl, _, rfl, small_line (by show 5 ≤ 100000; omega), fun t ht => ?_⟩
                have et17 : (upd H16 t (.tup (bV (tieB (keptL names.length M') M' (tnOf r M') b)))) t = some (.tup (bV (tieB (keptL names.length M') M' (tnOf r M') b))) := upd_same
                have f17 : Fr [] H16 (upd H16 t (.tup (bV (tieB (keptL names.length M') M' (tnOf r M') b)))) := Fr.n0 ht
                have etl17 := f17.at_ et16
                have hts : ts.length ≤ bs.length := by
                  rw [tp13.1]
                  unfold tiedL
                  rw [List.length_map]
                  exact Nat.le_trans (List.length_filter_le _ _) (by rw [List.length_take]; omega)
                refine ⟨tl, _, _, rfl, rfl, etl17, by rw [rV_len]; exact small_line' (by omega), ?_⟩
                have F17 : Fr [tl] H3 (upd H16 t (.tup (bV (tieB (keptL names.length M') M' (tnOf r M') b)))) := (f13.trans (Fr.of_ex ex16).nil).trans f17.nil
                refine ⟨ts ++ [t], _, _, _, _, _, rfl, F17.mutL (.inl (by simp)) etl17, ?_, ?_⟩
                · rw [upd_same]
                  unfold rV
                  rw [List.map_append]
                  rfl
                · rw [tiedL_take hb, if_neg (c := inM M' b = true) (by rw [hin]; decide)]
                  have tp16 := (tp13.mono (Fr.of_ex ex16)).mono f17
                  have fl : Fr [tl] (upd H16 t (.tup (bV (tieB (keptL names.length M') M' (tnOf r M') b)))) (upd (upd H16 t (.tup (bV (tieB (keptL names.length M') M' (tnOf r M') b)))) tl (.lst (rV ts ++ [.ref t]))) := (Fr.refl _ _).mutL (.inl (by simp)) etl17
                  exact (tp16.mono fl).snoc (fl.tp _ _ et17)
          · have hin : inM M' b = true := by
              unfold inM
              rw [← Bool.not_and] at hcc
              exact not_false_b hcc
            refine ⟨ts, _, _, _, _, _, rfl, f13.trans (Fr.of_ex e14).nil, e14 _ _ et13, ?_⟩
            rw [tiedL_take hb, if_pos hin, List.append_nil]
            exact tp13.mono (Fr.of_ex e14)
        · rintro σ' H4 ⟨ts, v9, v10, v11, v12, v13, rfl, f4, et4, tp4⟩
          rw [rV_len, tps3.1, List.take_length] at tp4
          have em4 := f4.kp _ _ em3 (nt em2)
          have hrl4 := f4.kp _ _ hrl3 (nt hrl2)
          have ek4 := f4.kp _ _ ek3 (nt ek2)
          have hnl4 := f4.kp _ _ (f3.at_ hnl2) (nt hnl2)
          have F4 : Fr [] H H4 := (F3.nil.trans f4).shrink fun b hb => .inr (by rw [List.mem_singleton.mp hb]; exact htl0)
          have hkl := kept_len (n := names.length) (M := M')
          refine Evl.q_asgL (el_mapN (L := keptL names.length M') (f := nth r) (Evl.ev_var rfl) (SqL.of ek4) (by omega) (fun _ => by rfl) (fun i x H5 e hx => ev_ixN (Evl.ev_var rfl) (Evl.ev_var rfl) (e _ _ hrl4) (by have := (mem_kept.mp (List.mem_of_getElem? hx)).1; omega))) (fun dl H5 hdl e5 ed => ?_)
          have ek5 := e5 _ _ ek4
          have em5 := e5 _ _ em4
          have hj : (keptL names.length M').idxOf (nth M' 0) < (keptL names.length M').length := idx_lt G.fk
          refine Evl.q_setL (j := (keptL names.length M').idxOf (nth M' 0)) ed (Evl.ev_var rfl) (Evl.ev_var rfl) (ev_idx (Evl.ev_var rfl) (ev_ixL (j := 0) (Evl.ev_var rfl) Evl.ev_c em5 (nVs_nth hM0)) ek5 G.fk) (by rw [nVs_len, List.length_map]; exact hj) (fun H6 e6 => ?_)
          have ed6 := e6 _ _ ed
          have esd : (nVs ((keptL names.length M').map (nth r))).set ((keptL names.length M').idxOf (nth M' 0)) (nV c) = nVs (dueL names.length M' r) := by
            unfold dueL nVs
            rw [List.map_set, hc]
          rw [esd]
          have f7 : Fr [dl] H4 (upd H6 dl (.lst (nVs (dueL names.length M' r)))) := ((Fr.of_ex (e5.trans e6)).nil).mutL (.inl (by simp)) ed6
          have ed7 : (upd H6 dl (.lst (nVs (dueL names.length M' r)))) dl = some (.lst (nVs (dueL names.length M' r))) := upd_same
          have hdl0 := F4.free hdl
          have nd : ∀ {a : Addr} {u : HO}, H4 a = some u → a ∉ [dl] := fun {a u} e => by
            have := ne_of_none e hdl
            simpa using this
          generalize upd H6 dl (.lst (nVs (dueL names.length M' r))) = H7 at f7 ed7 ⊢
          have F7 : Fr [] H H7 := (F4.nil.trans f7).shrink fun b hb => .inr (by rw [List.mem_singleton.mp hb]; exact hdl0)
          have ek7 := f7.kp _ _ ek4 (nd ek4)
          have em7 := f7.kp _ _ em4 (nd em4)
          have hnl7 := f7.kp _ _ hnl4 (nd hnl4)
          have et7 := f7.kp _ _ et4 (nd et4)
          refine ret_four (el_map (xs := nVs (keptL names.length M')) (ys := (calledL names M').map V.str) (Evl.ev_var rfl) (SqL.of ek7) (by rw [nVs_len]; omega) (by unfold calledL; rw [nVs_len, List.length_map, List.length_map]) (fun _ => by rfl) (fun i x y H8 e hx hy => ?_)) (Evl.ev_var rfl) (Evl.ev_var rfl) (ev_idx (Evl.ev_var rfl) (ev_ixL (j := 0) (Evl.ev_var rfl) Evl.ev_c em7 (nVs_nth hM0)) ek7 G.fk) (fun a p H8 hp ep ea e8 => ?_)
          · obtain ⟨x, hx2, rfl⟩ := of_nVs hx
            have hxn := (mem_kept.mp (List.mem_of_getElem? hx2)).1
            unfold calledL at hy
            rw [List.getElem?_map, List.getElem?_map, hx2] at hy
            rw [← Option.some.inj hy]
            exact ev_ixL (j := x) (Evl.ev_var rfl) (Evl.ev_var rfl) (e _ _ hnl7) (by rw [List.getElem?_map, nmS_at hxn]; rfl)
          · exact q p a tl dl H8 (F7.free hp) ep ea ⟨ts, e8 _ _ et7, (tp4.mono f7).mono (.of_ex e8)⟩ (e8 _ _ ed7) (F7.trans (.of_ex e8))
end
end RH
/-! The law's helpers: names. -/
namespace RH
open PySem PySem.Spec PyProof.Rows L2
theorem letters_at : letters.length = 26 ∧ ∀ i, i < 26 → nth letters i = 97 + i := by
  unfold letters nth
  decide +kernel
def turnZ (z : Int) (A k p : Nat) : Int := if p = A then z / 64 + 3 * (k : Int) else z / (64 + (p : Int))
def codeN (z : Int) (A k p : Nat) : Nat := nth letters (turnZ z A k p % 26).toNat
def wordN (z : Int) (A k p : Nat) : Str := ⟨((List.range p).map (codeN z A k)).toArray⟩
theorem mod26 (t : Int) : (t % 26).toNat < 26 ∧ t % 26 = (((t % 26).toNat : Nat) : Int) := by
  have h1 := Int.emod_nonneg t (b := 26) (by decide)
  have h2 := Int.emod_lt_of_pos t (b := 26) (by decide)
  omega
theorem word_len (z : Int) (A k p : Nat) : (wordN z A k p).length = p := by
  show ((List.range p).map (codeN z A k)).toArray.size = p
  rw [List.size_toArray, List.length_map, List.length_range]
theorem word_succ (z : Int) (A k p : Nat) : wordN z A k p ++ (⟨#[codeN z A k p]⟩ : Str) = wordN z A k (p + 1) := by
  have e : wordN z A k p ++ (⟨#[codeN z A k p]⟩ : Str) = ⟨(wordN z A k p).cps ++ #[codeN z A k p]⟩ := rfl
  rw [e]
  unfold wordN
  rw [List.range_succ, List.map_append]
  simp
theorem word_isname {z : Int} {A k p : Nat} (h1 : 1 ≤ p) (h2 : p ≤ 8) : IsName (wordN z A k p) := by
  refine ⟨by rw [word_len]; exact h1, by rw [word_len]; exact h2, fun c hc => ?_⟩
  have e : (wordN z A k p).cps.toList = (List.range p).map (codeN z A k) := rfl
  rw [e] at hc
  obtain ⟨x, _, rfl⟩ := List.mem_map.mp hc
  exact nth_mem (by rw [letters_at.1]; exact (mod26 _).1)
theorem word_ne {z : Int} {A k k' p : Nat} (hA : A < p) (hk : k < 7) (hk' : k' < 7) (h : wordN z A k p = wordN z A k' p) : k = k' := by
  have e : (List.range p).map (codeN z A k) = (List.range p).map (codeN z A k') := by
    have := congrArg (fun s : Str => s.cps.toList) h
    exact this
  have e2 := congrArg (fun l => l[A]?) e
  simp only [List.getElem?_map, List.getElem?_range hA, Option.map_some] at e2
  have e3 : codeN z A k A = codeN z A k' A := Option.some.inj e2
  unfold codeN turnZ at e3
  rw [if_pos rfl, if_pos rfl] at e3
  have m1 := mod26 (z / 64 + 3 * (k : Int))
  have m2 := mod26 (z / 64 + 3 * (k' : Int))
  rw [letters_at.2 _ m1.1, letters_at.2 _ m2.1] at e3
  have e4 : (z / 64 + 3 * (k : Int)) % 26 = (z / 64 + 3 * (k' : Int)) % 26 := by rw [m1.2, m2.2]; omega
  omega
def namesN (z : Int) (A Lo n : Nat) : List Str := (List.range n).map fun k => wordN z A k Lo
theorem names_nodup {z : Int} {A Lo n : Nat} (hA : A < Lo) (hn : n ≤ 7) : (namesN z A Lo n).Nodup := by
  unfold namesN
  refine List.Pairwise.map _ (fun a b h => h) (List.pairwise_iff_getElem.mpr fun i j hi hj hij e => ?_)
  rw [List.length_range] at hi hj
  rw [List.getElem_range, List.getElem_range] at e
  have := word_ne hA (show i < 7 by omega) (show j < 7 by omega) e
  omega
section
variable {P : Program} {w : World} {K : PySem.W.Frag} {mg : Str → Option Value} {base : Heap}
def spNamesL : Sp := fun vs H Q _ => ∃ (z : Int) (n : Nat), vs = [.int z, nV n] ∧ n ≤ 7 ∧ ∀ names : List Str, names.length = n → (∀ x, x ∈ names → IsName x) → names.Nodup → (∃ l, ∀ x, x ∈ names → x.length = l) → RL (names.map V.str) H Q
theorem sc_l_names : FnScope ["_law_cell", "_law_many", "_law_letters", "_law_long", "_law_at", "_law_some", "_law_k", "_law_word", "_law_place", "_law_turn"] ["_law_cell", "_law_many"] (defScope s_l_names) := ⟨rfl, rfl, rfl, by decide +kernel, rfl, by decide +kernel, by decide +kernel⟩
theorem ok_l_names (T : Tx K mg) : Okf P w K mg base 1 (He.ga K "_law_names") ["_law_cell", "_law_many"] spNamesL := by
  refine okf_of T.df_l_names sc_l_names (fun _ _ _ _ _ _ us hl => match us, hl with | [_, _], _ => rfl) (fun vs H Q E h => ?_) (fun cdv A outer s H vs Q E hr h => ?_)
  · obtain ⟨z, n, rfl, _⟩ := h
    rfl
  · obtain ⟨z, n, rfl, hn, q⟩ := h
    refine ⟨_, pss_cons (ps_set (i := 2) sc_l_names.nd rfl (.inl rfl) pe_str)
      (pss_cons (ps_set (i := 3) sc_l_names.nd rfl (.inl rfl) (pe_op op_add pe_int (pe_op op_mod (pv 0) pe_int)))
      (pss_cons (ps_set (i := 4) sc_l_names.nd rfl (.inl rfl) (pe_op op_mod (pe_op op_fdivW (pv 0) pe_int) (pv 3)))
      (pss_cons (ps_set (i := 5) sc_l_names.nd rfl (.inl rfl) (pe_lst pa_nil))
      (pss_cons (ps_for PassesOwn.never rfl (pi_range1 (by rfl) T.b_range (pa_cons (pv 1) pa_nil)) (pg_name (i := 6) sc_l_names.nd rfl (.inl rfl))
        (pss_cons (ps_set (i := 7) sc_l_names.nd rfl (.inl rfl) pe_str)
        (pss_cons (ps_for PassesOwn.never rfl (pi_range1 (by rfl) T.b_range (pa_cons (pv 3) pa_nil)) (pg_name (i := 8) sc_l_names.nd rfl (.inl rfl))
          (pss_cons (ps_set (i := 9) sc_l_names.nd rfl (.inl rfl) (pe_op op_fdivW (pv 0) (pe_op op_add pe_int (pv 8))))
          (pss_cons (ps_if (pt_cmpR op_eq (pv 8) (pv 4) (nomark _)) (pss_one (ps_set (i := 9) sc_l_names.nd rfl (.inl rfl) (pe_op op_add (pe_op op_fdivW (pv 0) pe_int) (pe_op op_mulB pe_int (pv 6))))) pss_nil)
          (pss_one (ps_set (i := 7) sc_l_names.nd rfl (.inl rfl) (pe_op op_add_str (pv 7) (pe_ix ix_str (pv 2) (pe_op op_mod (pv 9) pe_int) (fun _ _ => rfl))))))))
        (pss_one (ps_expr (pe_bm PySem.F.plainAttrs_list PySem.F.slot_list_append PySem.F.type_list_append mt_append (pv 5) (pa_cons (pv 7) pa_nil)))))))
      (pss_one (ps_ret (pv 5))))))), ?_⟩
    obtain ⟨m8, em8⟩ := toN (Int.emod_nonneg z (b := 8) (by decide))
    have hm8 : m8 < 8 := by
      have := Int.emod_lt_of_pos z (b := 8) (by decide)
      omega
    obtain ⟨Lo, hLo⟩ : ∃ Lo, Lo = 1 + m8 := ⟨_, rfl⟩
    obtain ⟨A, eA⟩ := toN (Int.emod_nonneg (z / 8) (b := (Lo : Int)) (by omega))
    have hA : A < Lo := by
      have := Int.emod_lt_of_pos (z / 8) (b := (Lo : Int)) (by omega)
      omega
    refine Evl.q_asg Evl.ev_c fun H1 e1 => ?_
    refine Evl.q_asg (v := nV Lo) (Evl.ev_is (ev_addN (a := 1) (b := m8) Evl.ev_c (Evl.ev_is (Evl.ev_op (Evl.ev_var rfl) Evl.ev_c (Evl.rv_I (i := z) (j := 8) (by show (0 : Int) < 8; decide))) (congrArg V.int em8))) (by rw [hLo])) fun H2 e2 => ?_
    refine Evl.q_asg (v := nV A) (Evl.ev_is (Evl.ev_op (Evl.ev_op (Evl.ev_var rfl) Evl.ev_c (Evl.rv_I (i := z) (j := 8) (div_w (b := 8) (n := 10) (by decide) (by decide) (by decide) (by decide)))) (Evl.ev_var rfl) (Evl.rv_I (i := z / 8) (j := (Lo : Int)) (by show (0 : Int) < (Lo : Int); omega))) (congrArg V.int eA)) fun H3 e3 => ?_
    have F3 : Fr [] H H3 := .of_ex ((e1.trans e2).trans e3)
    refine ⟨Nat.zero_le _, fun so hso => ?_⟩
    have hso0 := F3.free hso
    have f4 : Fr [] H3 (upd H3 so (.lst [])) := Fr.n0 hso
    have e4 : (upd H3 so (.lst [])) so = some (.lst []) := upd_same
    have F4 := F3.trans f4
    generalize upd H3 so (.lst []) = H4 at f4 e4 F4 ⊢
    refine ⟨_, rfl, _, rfl, by omega, by omega, ?_⟩
    rw [Int.toNat_natCast]
    refine for_rangeN (fun i σ' H' => ∃ (v6 v7 v8 v9 : Option V), σ' = [some (.int z), some (nV n), some (.str "abcdefghijklmnopqrstuvwxyz"), some (nV Lo), some (nV A), some (.ref so), v6, v7, v8, v9] ∧ Fr [so] H4 H' ∧ H' so = some (.lst (((List.range i).map fun k => wordN z A k Lo).map V.str))) ⟨_, _, _, _, rfl, Fr.refl _ _, e4⟩ ?_ ?_
    · rintro k σ' H5 hk ⟨v6, v7, v8, v9, rfl, f5, e5⟩
      refine ⟨_, rfl, _, rfl, by omega, by omega, ?_⟩
      rw [Int.toNat_natCast]
      refine for_rangeN (fun p σ' H' => ∃ (v8 v9 : Option V), σ' = [some (.int z), some (nV n), some (.str "abcdefghijklmnopqrstuvwxyz"), some (nV Lo), some (nV A), some (.ref so), some (nV k), some (.str (wordN z A k p)), v8, v9] ∧ Fr [] H5 H') ⟨_, _, rfl, Fr.refl _ _⟩ ?_ ?_
      · rintro p σ' H6 hp ⟨v8, v9, rfl, f6⟩
        refine g_go ?_
        dsimp only
        refine Evl.q_asg (v := .int (z / (64 + (p : Int)))) (Evl.ev_is (Evl.ev_op (Evl.ev_var rfl) (ev_addN (a := 64) (b := p) Evl.ev_c (Evl.ev_var rfl)) (Evl.rv_I (i := z) (j := ((64 + p : Nat) : Int)) (div_w (n := 10) (by omega) (by show _ < 1024; omega) (by decide) (by decide)))) (by rw [Int.natCast_add]; rfl)) fun H7 e7 => ?_
        refine Evl.q_ifAsg (b := decide (p = A)) (v := .int (turnZ z A k p)) (et_eqN (Evl.ev_var rfl) (Evl.ev_var rfl)) (fun hc => ?_) (fun hc => ?_) fun H8 e8 => ?_
        · refine Evl.ev_is (ev_add (Evl.ev_op (Evl.ev_var rfl) Evl.ev_c (Evl.rv_I (i := z) (j := 64) (div_w (b := 64) (n := 10) (by decide) (by decide) (by decide) (by decide)))) (Evl.ev_op Evl.ev_c (Evl.ev_var rfl) (Evl.rv_I (i := 3) (j := (k : Int)) (cb (Nat.le_trans (bits_small (n := 10) (by decide)) (by decide)) (Nat.le_trans (bits_small (n := 10) (by show (k : Int).natAbs < 1024; omega)) (by decide)))))) ?_
          unfold turnZ
          rw [if_pos (of_decide_eq_true hc)]
        · unfold turnZ
          rw [if_neg (of_decide_eq_false hc)]
          rfl
        · have hm := mod26 (turnZ z A k p)
          refine Evl.s_asg (v := .str (wordN z A k (p + 1))) (Evl.ev_op (Evl.ev_var rfl) (Evl.ev_op (Evl.ev_var rfl) (Evl.ev_op (Evl.ev_var rfl) Evl.ev_c (Evl.rv_I (i := turnZ z A k p) (j := 26) (by show (0 : Int) < 26; decide))) (Evl.rv_ixS (c := codeN z A k p) (by decide +kernel) ?_)) (fun H9 _ Q9 q9 => ⟨wordN z A k p, ⟨#[codeN z A k p]⟩, rfl, rfl, ?_, ?_⟩)) fun H9 e9 => ⟨some (nV p), some (.int (turnZ z A k p)), rfl, ((f6.trans (.of_ex e7)).trans (.of_ex e8)).trans (.of_ex e9)⟩
          · show atI letters (turnZ z A k p % 26) = _
            rw [hm.2]
            exact atI_nat (j := (turnZ z A k p % 26).toNat) (of_nth (by rw [letters_at.1]; exact hm.1))
          · rw [word_len]
            exact small_line (by show p + 1 ≤ 100000; omega)
          · rw [word_succ]
            exact q9 H9 (Evl.Ex.refl _)
      · rintro σ' H6 ⟨v8, v9, rfl, f6⟩
        have e6 := f6.at_ e5
        refine Evl.s_app (v := .str (wordN z A k Lo)) e6 (Evl.ev_var rfl) (Evl.ev_var rfl) (by rw [List.length_map, List.length_map, List.length_range]; omega) fun H7 e7 => ⟨_, _, _, _, rfl, ((f5.trans f6.nil).trans (Fr.of_ex e7).nil).mutL (.inl (by simp)) (e7 _ _ e6), ?_⟩
        rw [upd_same, List.range_succ, List.map_append, List.map_append]
        rfl
    · rintro σ' H5 ⟨v6, v7, v8, v9, rfl, f5, e5⟩
      refine ⟨_, rfl, q (namesN z A Lo n) (by unfold namesN; rw [List.length_map, List.length_range]) (fun x hx => ?_) (names_nodup hA hn) ⟨Lo, fun x hx => ?_⟩ so H5 hso0 ((F4.nil.trans f5).shrink fun b hb => .inr (by rw [List.mem_singleton.mp hb]; exact hso0)) e5⟩
      · obtain ⟨k, _, rfl⟩ := List.mem_map.mp hx
        exact word_isname (by omega) (by omega)
      · obtain ⟨k, _, rfl⟩ := List.mem_map.mp hx
        exact word_len _ _ _ _
end
end RH
/-! The law. -/
namespace RH
open PySem PySem.Spec PyProof.Rows L2
section
variable {P : Program} {w : World} {K : PySem.W.Frag} {mg : Str → Option Value} {base : Heap}
abbrev lawN : List Str := ["_law_script", "_law_first", "_law_many", "_law_rates", "_law_k", "_law_top", "_law_names_here", "_law_belts", "_law_group", "_law_hall", "_law_handed", "_law_joint", "_law_inner", "_law_name", "_law_late", "_law_called", "_law_tied", "_law_due", "_law_place", "_law_made_here", "_law_found"]
theorem sc_law : FnScope lawN ["_law_script"] (defScope s_law) := ⟨rfl, rfl, rfl, by decide +kernel, rfl, by decide +kernel, by decide +kernel⟩
def spLaw (K : PySem.W.Frag) : Sp := fun vs H Q _ => ∃ (a : Addr) (ns : List Int), vs = [.ref a] ∧ SqL K H a (ns.map V.int) ∧ ns.length ≤ 63 ∧ (∀ z, z ∈ ns → Wide z) ∧ ∀ H', Q (.bl true) H'
theorem sql_kept {S : List Addr} {H H' : Hp} {a : Addr} {xs : List V} (h : SqL K H a xs) (x : Fr S H H') (hn : ∀ u, H a = some u → a ∉ S) : SqL K H' a xs := by
  rcases h with h | h
  · rcases h with h | ⟨o, h⟩
    · exact .inl (.inl (x.kp _ _ h (hn _ h)))
    · exact .inl (.inr ⟨o, x.kp _ _ h (hn _ h)⟩)
  · exact .inr h
theorem jF_get {m : Str} (wl kl cl tl : Addr) (fst : Nat) (h : (m == "within") = false ∧ (m == "first") = false ∧ (m == "kept") = false ∧ (m == "called") = false ∧ (m == "tied") = false) : (jF wl fst kl cl tl).lookup m = none :=
  jF_no _ _ _ _ _ (by simpa using h.1) (by simpa using h.2.1) (by simpa using h.2.2.1) (by simpa using h.2.2.2.1) (by simpa using h.2.2.2.2)
/-! ### belts != [] -/
theorem dpAll_bels {H : Hp} : ∀ {as : List Addr} {bs : List Belt}, Tups H as bs → DpAll K H (rV as) (bs.map fun b => PyData.tuple (dI ((bN b).map fun n : Nat => (n : Int))))
  | [], [], _ => .nil
  | [], b :: r, h => by have := h.1; simp at this
  | a :: r, [], h => by have := h.1; simp at this
  | a :: r, b :: s, h => .cons (dp_tup (h.2 0 a b rfl rfl)) (dpAll_bels ⟨by simpa using h.1, fun i c d h1 h2 => h.2 (i + 1) c d (by simpa using h1) (by simpa using h2)⟩)
theorem shaped_bels (bs : List Belt) : SeqAt.shaped (.list (bs.map fun b => PyData.tuple (dI ((bN b).map fun n : Nat => (n : Int))))) = true := by
  have h2 : ∀ bs : List Belt, PyData.canLayAll0 (bs.map fun b => PyData.tuple (dI ((bN b).map fun n : Nat => (n : Int)))) = true := fun bs => by
    induction bs with
    | nil => rfl
    | cons b r ih =>
      show PyData.canLayAll0 (PyData.tuple _ :: _) = true
      rw [PyData.canLayAll0, PyData.canLay0, canAll_ints, ih]
      rfl
  have h3 : ∀ bs : List Belt, PyData.depthAll (bs.map fun b => PyData.tuple (dI ((bN b).map fun n : Nat => (n : Int)))) ≤ 2 := fun bs => by
    induction bs with
    | nil => simp [PyData.depthAll]
    | cons b r ih =>
      have := depth_ints ((bN b).map fun n : Nat => (n : Int))
      show PyData.depthAll (PyData.tuple _ :: _) ≤ 2
      rw [PyData.depthAll, PyData.depth]
      omega
  unfold SeqAt.shaped
  rw [PyData.canLay0, PyData.depth, h2, decide_eq_true (by have := h3 bs; omega)]
  rfl
section
open Evl
variable {σ : L2.St} {H : Hp} {ta tb tc td tr : TE} {v : V}
theorem ev_neBNil {l : Addr} {bs : List Belt} (h : Ev ta σ H (.ref l)) (hb : Bls H l bs) : Ev (tOp (rNeD K) ta (tLst tNil)) σ H (.bl (!bs.isEmpty)) := fun H1 e Q q =>
  h H1 e _ fun H2 e2 => ⟨Nat.zero_le _, fun p hp => by
    obtain ⟨as, eb, t⟩ := hb
    have f : Fr [] H (upd H2 p (.lst [])) := (Fr.of_ex (e.trans e2)).trans (Fr.n0 hp)
    refine ⟨_, _, .lst (SqL.of (f.at_ eb)) (dpAll_bels (t.mono f)), .lst (SqL.of upd_same) .nil, shaped_bels _, shaped_list [], ?_⟩
    have k := q (upd H2 p (.lst [])) (e2.trans (Ex.new hp))
    cases bs with
    | nil =>
      have e0 : PyData.eqv (.list ([] : List PyData)) (.list []) = true := eqv_self (shaped_list [])
      show Q (.bl (!PyData.eqv (.list []) (.list []))) _
      rw [e0]
      exact k
    | cons b r =>
      have e0 : PyData.eqv (.list (PyData.tuple (dI ((bN b).map fun n : Nat => (n : Int))) :: r.map fun b => PyData.tuple (dI ((bN b).map fun n : Nat => (n : Int))))) (.list []) = false := by simp [PyData.eqv, PyData.eqvAll]
      show Q (.bl (!PyData.eqv (.list (PyData.tuple _ :: _)) (.list []))) _
      rw [e0]
      exact k⟩
theorem el_snoc {a : Addr} {xs : List V} (h1 : Ev ta σ H (.ref a)) (h2 : Ev tb σ H v) (ha : H a = some (.lst xs)) (hz : xs.length ≤ 1000) : EvL (tOp rCat ta (tLst (tCons tb tNil))) σ H (xs ++ [v]) := fun H1 e Q q =>
  h1 H1 e _ fun H2 e2 => h2 H2 (e.trans e2) _ fun H3 e3 => ⟨small_line (by show 1 ≤ 100000; omega), fun p hp => ⟨a, p, xs, [v], rfl, rfl, (Ex.new hp) _ _ (e3 _ _ (e2 _ _ (e _ _ ha))), upd_same, small_line (by show xs.length + 1 ≤ 100000; omega), fun c hc => q c _ (fresh_back (e2.trans (e3.trans (Ex.new hp))) hc) ((e2.trans (e3.trans (Ex.new hp))).trans (Ex.new hc)) upd_same⟩⟩
theorem el_twice {xs : List V} (h : EvL ta σ H xs) (hz : xs.length ≤ 1000) : EvL (tOp rRep ta (tC (.int 2))) σ H (xs ++ xs) := fun H1 e Q q =>
  h H1 e _ fun p H2 hp e2 ep => ⟨p, 2, xs, rfl, rfl, ep, by decide, by decide, small_line (by show xs.length * 2 ≤ 100000; omega), fun c hc => q c _ (fresh_back e2 hc) (e2.trans (Ex.new hc)) (by rw [upd_same]; simp [List.replicate])⟩
theorem cut_last {row : List Nat} {n : Nat} : cutV (nVs (row ++ [n])) none (some (-1)) = nVs row := by
  unfold cutV
  rw [HT.sIx_none]
  have e : HT.sIx (nVs (row ++ [n])).length (nVs (row ++ [n])).length (some (-1)) = row.length := by
    show (if (-1 : Int) < 0 then ((-1 : Int) + ((nVs (row ++ [n])).length : Int)).toNat else min (-1 : Int).toNat (nVs (row ++ [n])).length) = _
    rw [if_pos (by decide), nVs_len, List.length_append, List.length_singleton]
    omega
  rw [e, Nat.sub_zero, List.drop_zero, nVs_app]
  rw [← nVs_len row]
  exact List.take_left
theorem el_cutlast {a : Addr} {row : List Nat} {n : Nat} (h : Ev ta σ H (.ref a)) (ha : H a = some (.lst (nVs (row ++ [n])))) : EvL (tSl (rSlL K) ta tNoPart (tPart (tUn (rU fun i => .int (-i)) (tC (.int 1))))) σ H (nVs row) := by
  rw [← cut_last (n := n)]
  exact el_sl h eo_none (eo_some (ev_un (x := .int 1) (z := .int (-1)) ev_c fun H1 _ _ q => ⟨1, rfl, q H1 (Ex.refl H1)⟩)) (SqL.of ha)
theorem ev_good {q a1 a2 l1 l2 : Addr} {names : List Str} {bs : List Belt} (h1 : Ev ta σ H (.ref q)) (h2 : Ev tb σ H (.ref a1)) (h3 : Ev tc σ H (.ref a2)) (A : HallAt K H q l1 l2 names bs) (e1 : H a1 = some (.lst (names.map V.str))) (e2 : Bls H a2 bs) (hS : ∀ x, x ∈ names → IsName x) :
    Ev (tCall (spGood K) [] E0 (tCons ta (tCons tb (tCons tc tNil)))) σ H (.bl true) := ev_call (ea_cons h1 (ea_cons h2 (ea_cons h3 ea_nil))) fun H1 e Q q1 _ => ⟨q, a1, a2, l1, l2, names, bs, rfl, A.keep (.of_ex e), e _ _ e1, e2.kept (Fr.of_ex e) (by simp), hS, fun H2 f => q1 H2 f.ex⟩
theorem ev_wholesV {a : Addr} {xs : List Nat} (h : Ev ta σ H (.ref a)) (ha : H a = some (.lst (nVs xs))) : Ev (tCall spWholes [] E0 (tCons ta tNil)) σ H (.bl true) := ev_call (ea_cons h ea_nil) fun H1 e Q q _ => ⟨a, xs, rfl, e _ _ ha, fun H2 f => q H2 f.ex⟩
theorem ev_andV (h1 : Ev ta σ H (.bl true)) (h2 : Ev tb σ H v) : Ev (tAndV ta tb) σ H v := fun H1 e Q q => h1 H1 e _ fun H2 e2 => ⟨true, rfl, by
  rw [if_pos rfl]
  exact h2 H2 (e.trans e2) _ fun H3 e3 => q H3 (e2.trans e3)⟩
variable {j wl kl cl tl : Addr} {names : List Str} {bs : List Belt} {M row : List Nat} {tn : Nat → Nat}
theorem el_inner (hr : Ev tr σ H (.ref j)) (J : JointAt K H j wl kl cl tl names bs M row tn) : EvL (tMeth (He.ga K "Joint") "inner" (spInnerOf K) [] E0 tr tNil) σ H (nVs row) := fun H1 e Q q =>
  hr H1 e _ fun H2 e2 => by
    have J2 := J.keep (.of_ex (e.trans e2))
    obtain ⟨dx, ej⟩ := J2.ob
    exact ⟨j, dx, _, rfl, ej, jF_get _ _ _ _ _ (by decide +kernel), j, wl, kl, cl, tl, names, bs, M, row, tn, rfl, J2, fun p H3 hp f ep => q p H3 (fresh_back e2 hp) (e2.trans f.ex) ep⟩
theorem ev_place (hr : Ev tr σ H (.ref j)) (J : JointAt K H j wl kl cl tl names bs M row tn) : Ev (tMeth (He.ga K "Joint") "place" (spPlace K) [] E0 tr tNil) σ H (nV (nth M 0)) := fun H1 e Q q =>
  hr H1 e _ fun H2 e2 => by
    have J2 := J.keep (.of_ex (e.trans e2))
    obtain ⟨dx, ej⟩ := J2.ob
    exact ⟨j, dx, _, rfl, ej, jF_get _ _ _ _ _ (by decide +kernel), j, wl, kl, cl, tl, names, bs, M, row, tn, rfl, J2, q H2 e2⟩
theorem el_unfolded (hr : Ev tr σ H (.ref j)) (h2 : Ev ta σ H (nV (nth M 0))) (J : JointAt K H j wl kl cl tl names bs M row tn) (hpl : nth M 0 < (keptL names.length M).length) (hrow : row.length ≤ 1000) :
    EvL (tMeth (He.ga K "Joint") "unfolded" (spUnfolded K) [] E0 tr (tCons (tLst (tCons ta (tCons ta tNil))) tNil)) σ H (nVs row ++ nVs row) := fun H1 e Q q =>
  hr H1 e _ fun H2 e2 => by
    have J2 := J.keep (.of_ex (e.trans e2))
    obtain ⟨dx, ej⟩ := J2.ob
    refine ⟨j, dx, _, rfl, ej, jF_get _ _ _ _ _ (by decide +kernel), h2 H2 (e.trans e2) _ fun H3 e3 => h2 H3 ((e.trans e2).trans e3) _ fun H4 e4 => ⟨small_line (by show 2 ≤ 100000; omega), fun g hg => ?_⟩⟩
    have ex := e3.trans (e4.trans (Ex.new (o := .lst [nV (nth M 0), nV (nth M 0)]) hg))
    refine ⟨j, wl, kl, cl, tl, g, names, bs, M, row, tn, rfl, J2.keep (.of_ex ex), upd_same, hpl, hrow, fun p H5 hp f ep => q p H5 (fresh_back (e2.trans ex) hp) ((e2.trans ex).trans f.ex) ?_⟩
    rw [← nVs_app]
    exact ep
/-- the joined hall anew, looked at -/
theorem ev_goodMade {a1 a2 : Addr} (hr : Ev tr σ H (.ref j)) (h2 : Ev tb σ H (.ref a1)) (h3 : Ev tc σ H (.ref a2)) (J : JointAt K H j wl kl cl tl names bs M row tn) (O : HallOk (calledL names M) (tiedL names.length M tn bs)) (e1 : H a1 = some (.lst ((calledL names M).map V.str))) (e2 : Bls H a2 (tiedL names.length M tn bs)) :
    Ev (tCall (spGood K) [] E0 (tCons (tMeth (He.ga K "Joint") "made" (spMade K) [] E0 tr tNil) (tCons tb (tCons tc tNil)))) σ H (.bl true) := fun H1 e Q q =>
  hr H1 e _ fun H2 x2 => by
    have J2 := J.keep (.of_ex (e.trans x2))
    obtain ⟨dx, ej⟩ := J2.ob
    refine ⟨j, dx, _, rfl, ej, jF_get _ _ _ _ _ (by decide +kernel), j, wl, kl, cl, tl, names, bs, M, row, tn, rfl, J2, O, fun h k1 k2 H3 hh hk1 hk2 A f3 => ?_⟩
    have x3 := (e.trans x2).trans f3.ex
    refine h2 H3 x3 _ fun H4 x4 => h3 H4 (x3.trans x4) _ fun H5 x5 => ?_
    have f5 : Fr [] H H5 := .of_ex ((x3.trans x4).trans x5)
    exact ⟨h, a1, a2, k1, k2, _, _, rfl, A.keep (.of_ex (x4.trans x5)), f5.at_ e1, e2.kept f5 (by simp), O.isn, fun H6 f6 => q H6 (((x2.trans f3.ex).trans (x4.trans x5)).trans f6.ex)⟩
end
section
open Evl
theorem lenT {σ : L2.St} {H : Hp} {ta : TE} {p : Addr} {x y : V} (h : Ev ta σ H (.ref p)) (hp : H p = some (.tup [x, y])) : Ev (tCB (rLenS K) (tCons ta tNil)) σ H (nV 2) := fun H1 e Q q =>
  h H1 e _ fun H2 e2 => ⟨p, [x, y], rfl, .inr (SqT.of (e2 _ _ (e _ _ hp))), q H2 e2⟩
end
/-! ### late -/
def lates : List Str := ["late", "later"]
def lateOf (names : List Str) : Str := if ("late" : Str) ∈ names then "later" else "late"
theorem late_name : IsName "late" ∧ IsName "later" := by
  refine ⟨⟨by decide +kernel, by decide +kernel, ?_⟩, ⟨by decide +kernel, by decide +kernel, ?_⟩⟩
  · unfold letters
    decide +kernel
  · unfold letters
    decide +kernel
theorem lateOf_name (names : List Str) : IsName (lateOf names) := by
  unfold lateOf
  by_cases h : ("late" : Str) ∈ names
  · rw [if_pos h]; exact late_name.2
  · rw [if_neg h]; exact late_name.1
theorem lateOf_new {names : List Str} (hs : ∃ l, ∀ x, x ∈ names → x.length = l) : lateOf names ∉ names := by
  unfold lateOf
  by_cases h : ("late" : Str) ∈ names
  · rw [if_pos h]
    intro h2
    obtain ⟨l, hl⟩ := hs
    have h3 := hl _ h
    have h4 := hl _ h2
    rw [← h3] at h4
    exact absurd h4 (by decide +kernel)
  · rw [if_neg h]; exact h
theorem late_list {names : List Str} (hs : ∃ l, ∀ x, x ∈ names → x.length = l) : (Evl.given 2 (fun i => !decide (lates.getD i "" ∈ names)) (fun i => V.str (lates.getD i "")))[0]? = some (.str (lateOf names)) := by
  have hn := lateOf_new hs
  have e : List.range 2 = [0, 1] := rfl
  unfold Evl.given
  rw [e]
  have e0 : lates.getD 0 "" = "late" := rfl
  have e1 : lates.getD 1 "" = "later" := rfl
  by_cases h : ("late" : Str) ∈ names
  · have h1 : lateOf names = "later" := by unfold lateOf; rw [if_pos h]
    rw [h1] at hn ⊢
    rw [List.filter_cons_of_neg (by rw [e0]; simp [h]), List.filter_cons_of_pos (by rw [e1]; simp [hn])]
    rfl
  · have h1 : lateOf names = "late" := by unfold lateOf; rw [if_neg h]
    rw [h1]
    rw [List.filter_cons_of_pos (by rw [e0]; simp [h])]
    rfl
theorem okf_fd {x qual : Str} {pa : Arguments} {bd : List Stmt} {sc : Scope} {f : Addr} {N ps : List Str} {k : Nat} {sp : Sp} {fd : FuncData} (F : FunD K x qual pa bd sc [] [] f fd) (S : FnScope N ps sc) (len : ∀ vs H Q E, sp vs H Q E → vs.length = ps.length)
    (body : ∀ (cdv : Value) (A : Around) (outer : List Env) (s : Shared) (H : Hp) (vs : List V) (Q : VK) (E : XK), Room k (A.deeper (envOfC qual sc s.heap.objs.size f cdv)) → sp vs H Q E →
      ∃ t, PSs (cxOf CX0 P w K mg base N qual sc f cdv A outer s H E).nox bd t ∧ t { nx := fun _ H' => Q .non H', rt := Q } (start N vs) H) : FnOk P w K mg base CX0 (k + 1) f fd ps sp :=
  F.ok S len fun cdv A outer s H vs Q E hr h =>
    let ⟨t, h1, h2⟩ := body cdv A outer s H vs Q E hr h
    ⟨t, h1.nox, h2⟩
theorem ok_law (T : Tx K mg) {fd : FuncData} (F : FunD K "law" "law" (defArgs s_law) (defBody s_law) (defScope s_law) [] [] (He.ga K "law") fd) : FnOk P w K mg base CX0 10 (He.ga K "law") fd ["_law_script"] (spLaw K) := by
  obtain ⟨fCe, GCe, kCe, bCe⟩ := ok_l_cell_at (P := P) (w := w) (base := base) T
  obtain ⟨fNm, GNm, kNm, bNm⟩ := ok_l_names (P := P) (w := w) (base := base) T
  obtain ⟨fBb, GBb, kBb, bBb⟩ := ok_l_belt_by (P := P) (w := w) (base := base) T
  obtain ⟨fLe, GLe, kLe, bLe⟩ := ok_l_least (P := P) (w := w) (base := base) T
  obtain ⟨fGr, GGr, kGr, bGr⟩ := ok_l_group_by (P := P) (w := w) (base := base) T
  obtain ⟨fMa, GMa, kMa, bMa⟩ := ok_l_made (P := P) (w := w) (base := base) T
  obtain ⟨fJ, GJ, kJ, bJ⟩ := ok_Joint_init (P := P) (w := w) (base := base) T
  obtain ⟨fIn, GIn, kIn, bIn⟩ := ok_Joint_inner (P := P) (w := w) (base := base) T
  obtain ⟨fFi, GFi, kFi, bFi⟩ := ok_Hall_fill (P := P) (w := w) (base := base) T
  obtain ⟨fWo, GWo, kWo, bWo⟩ := ok_Hall_work (P := P) (w := w) (base := base) T
  obtain ⟨fJo, GJo, kJo, bJo⟩ := ok_l_joined (P := P) (w := w) (base := base) T
  obtain ⟨fMd, GMd, kMd, bMd⟩ := ok_Joint_made (P := P) (w := w) (base := base) T
  obtain ⟨fG, GG, kG, bG⟩ := ok_l_hall_good (P := P) (w := w) (base := base) T
  obtain ⟨fN, GN, kN, bN⟩ := ok_Hall_names (P := P) (w := w) (base := base) T
  obtain ⟨fUn, GUn, kUn, bUn⟩ := ok_Joint_unfolded (P := P) (w := w) (base := base) T
  obtain ⟨fRa, GRa, kRa, bRa⟩ := ok_rates_of (P := P) (w := w) (base := base) T
  obtain ⟨fPl, GPl, kPl, bPl⟩ := ok_Joint_place (P := P) (w := w) (base := base) T
  obtain ⟨fWh, GWh, kWh, bWh⟩ := ok_l_wholes (P := P) (w := w) (base := base) T
  obtain ⟨fBe, GBe, kBe, bBe, d0, hd0, bBe0⟩ := ok_Hall_belt (P := P) (w := w) (base := base) T
  refine okf_fd F sc_law (fun vs H Q E h => ?_) (fun cdv A outer s H vs Q E hr h => ?_)
  · obtain ⟨a, ns, rfl, _⟩ := h
    rfl
  · obtain ⟨a, ns, rfl, hs, hl, hw, q⟩ := h
    have hr1 : Room 1 _ := hr.mono (by decide)
    have hr2 : Room 2 _ := hr.mono (by decide)
    have hr3 : Room 3 _ := hr.mono (by decide)
    have hr6 : Room 6 _ := hr.mono (by decide)
    refine ⟨_, pss_cons (ps_set (i := 1) sc_law.nd rfl (.inl rfl) (pe_call GCe hr1 (by rfl) T.g_l_cell_at kCe bCe .nil pass0 (pa_cons (pv 0) (pa_cons pe_int pa_nil))))
      (pss_cons (ps_set (i := 2) sc_law.nd rfl (.inl rfl) (pe_op op_add pe_int (pe_op op_mod (pv 1) pe_int)))
      (pss_cons (ps_setLc (i := 3) (own := [("_law_k", 4), ("_law_name", 13)]) (g := gName 4) (tt := tYes) (te := tOp (rI0 fun i j => .int (i + j)) (tC (.int 1)) (tOp (rI (fun _ j => 0 < j) fun i j => .int (i % j)) (tCall (spCell K) [] E0 (tCons (tVar 0) (tCons (tOp (rI0 fun i j => .int (i + j)) (tC (.int 3)) (tVar 4)) tNil))) (tC (.int 6)))) rfl sc_law.nd rfl rfl (sw_true rfl rfl rfl rfl) (pi_range1 (by rfl) T.b_range (pa_cons (pv 2) pa_nil)) (blkOk_by (own := [("_law_k", 4), ("_law_name", 13)]) (N := lawN) (sc := defScope s_law) (by decide +kernel)) (fun _ _ _ _ _ => pg_name (i := 4) sc_law.nd rfl (Or.inl rfl)) (fun _ _ _ _ _ => pts_nil)
        (fun _ _ _ _ _ => (pe_op op_add pe_int (pe_op op_mod (pe_call GCe hr1 (by rfl) T.g_l_cell_at kCe bCe .nil pass0 (pa_cons (pv 0) (pa_cons (pe_op op_add pe_int (pv 4)) pa_nil))) pe_int))))
      (pss_cons (ps_set (i := 5) sc_law.nd rfl (.inl rfl) (pe_ix ix_list (pe_lst (pa_cons pe_int (pa_cons pe_int (pa_cons pe_int (pa_cons (pe_op op_pow pe_int pe_int) pa_nil))))) (pe_op op_mod (pe_op op_fdivW (pv 1) pe_int) pe_int) (fun _ _ => rfl)))
      (pss_cons (ps_set (i := 6) sc_law.nd rfl (.inr rfl) (pe_call GNm hr1 (by rfl) T.g_l_names kNm bNm .nil pass0 (pa_cons (pe_call GCe hr1 (by rfl) T.g_l_cell_at kCe bCe .nil pass0 (pa_cons (pv 0) (pa_cons pe_int pa_nil))) (pa_cons (pv 2) pa_nil))))
      (pss_cons (ps_set (i := 7) sc_law.nd rfl (.inl rfl) (pe_lst pa_nil))
      (pss_cons (ps_for PassesOwn.never rfl (pi_range1 (by rfl) T.b_range (pa_cons (pe_op op_mod (pe_op op_fdivW (pv 1) pe_int) pe_int) pa_nil)) (pg_name (i := 4) sc_law.nd rfl (.inl rfl)) (pss_one (ps_expr (pe_bm PySem.F.plainAttrs_list PySem.F.slot_list_append PySem.F.type_list_append mt_append (pv 7) (pa_cons (pe_call GBb hr2 (by rfl) T.g_l_belt_by kBb bBb .nil pass0 (pa_cons (pe_call GCe hr1 (by rfl) T.g_l_cell_at kCe bCe .nil pass0 (pa_cons (pv 0) (pa_cons (pe_op op_add pe_int (pv 4)) pa_nil))) (pa_cons (pv 3) (pa_cons (pv 5) (pa_cons pe_bl pa_nil))))) pa_nil)))))
      (pss_cons (ps_set (i := 3) sc_law.nd rfl (.inl rfl) (pe_call GLe hr2 (by rfl) T.g_l_least kLe bLe .nil pass0 (pa_cons (pv 3) (pa_cons (pv 7) pa_nil))))
      (pss_cons (ps_set (i := 8) sc_law.nd rfl (.inl rfl) (pe_call GGr hr1 (by rfl) T.g_l_group_by kGr bGr .nil pass0 (pa_cons (pe_call GCe hr1 (by rfl) T.g_l_cell_at kCe bCe .nil pass0 (pa_cons (pv 0) (pa_cons pe_int pa_nil))) (pa_cons (pv 2) pa_nil))))
      (pss_cons (ps_set (i := 9) sc_law.nd rfl (.inl rfl) (pe_call GMa hr3 (by rfl) T.g_l_made kMa bMa .nil pass0 (pa_cons (pv 6) (pa_cons (pv 7) pa_nil))))
      (pss_cons (ps_set (i := 10) sc_law.nd rfl (.inl rfl) (pe_callTy call_list_of (by rfl) T.b_list (by decide +kernel) (pa_cons (pv 8) pa_nil)))
      (pss_cons (ps_set (i := 11) sc_law.nd rfl (.inl rfl) (pe_make T.mk_Joint GJ hr (by rfl) T.g_Joint bJ .nil pass0 (pa_cons (pv 9) (pa_cons (pv 10) pa_nil))))
      (pss_cons (ps_expr (pe_bm PySem.F.plainAttrs_list PySem.F.slot_list_append PySem.F.type_list_append mt_append (pv 10) (pa_cons pe_int pa_nil)))
      (pss_cons (ps_set (i := 12) sc_law.nd rfl (.inl rfl) (pe_meth0 (pv 11) T.cl_Joint T.m_Joint_inner GIn hr1 bIn .nil pass0))
      (pss_cons (ps_expr (pe_bm PySem.F.plainAttrs_list PySem.F.slot_list_append PySem.F.type_list_append mt_append (pv 12) (pa_cons (pv 2) pa_nil)))
      (Evl.pss_cut (ps_if (pt_cmpR (op_neD hr.units) (pv 7) (pe_lst pa_nil) (nomark _)) (pss_one (ps_expr (pe_meth (pv 9) T.cl_Hall T.m_Hall_fill GFi hr2 bFi .nil pass0 (pa_cons pe_int (pa_cons (pe_op op_add (pe_ix ix_tup (pe_ix ix_list (pv 7) pe_int (fun _ _ => rfl)) pe_int (fun _ _ => rfl)) pe_int) pa_nil))))) pss_nil)
      (pss_cons (ps_expr (pe_meth (pv 9) T.cl_Hall T.m_Hall_belt GBe hr2 bBe .nil pass0 (pa_cons pe_int (pa_cons pe_int (pa_cons pe_int (pa_cons pe_int (pa_cons pe_int pa_nil)))))))
      (pss_cons (ps_set (i := 14) sc_law.nd rfl (.inl rfl) (pe_ix ix_list (pe_lc (own := [("_law_k", 4), ("_law_name", 13)]) (g := gName 13) (tt := tTest (tOp (rIn K true) (tVar 13) (tVar 6))) (te := tVar 13) rfl sc_law.nd (pi_list (pe_lst (pa_cons pe_str (pa_cons pe_str pa_nil)))) (blkOk_by (own := [("_law_k", 4), ("_law_name", 13)]) (N := lawN) (sc := defScope s_law) (by decide +kernel)) (fun _ _ _ _ _ => pg_name (i := 13) sc_law.nd rfl (Or.inl rfl)) (fun _ _ _ _ _ => pts_one (pt_cmpR op_notIn_seq (pv 13) (pv 6) (by rfl))) (fun _ _ _ _ _ => pv 13)) pe_int (fun _ _ => rfl)))
      (pss_cons (ps_expr (pe_meth (pv 9) T.cl_Hall T.m_Hall_work GWo hr2 bWo .nil pass0 (pa_cons (pv 14) pa_nil)))
      (pss_cons (ps_asg (pe_call GJo hr2 (by rfl) T.g_l_joined kJo bJo .nil pass0 (pa_cons (pv 6) (pa_cons (pv 7) (pa_cons (pv 3) (pa_cons (pv 8) pa_nil))))) (pg_tup rfl (pgs_cons (pg_name (i := 15) sc_law.nd rfl (.inl rfl)) (pgs_cons (pg_name (i := 16) sc_law.nd rfl (.inl rfl)) (pgs_cons (pg_name (i := 17) sc_law.nd rfl (.inl rfl)) (pgs_cons (pg_name (i := 18) sc_law.nd rfl (.inl rfl)) pgs_nil))))))
      (pss_cons (ps_set (i := 19) sc_law.nd rfl (.inl rfl) (pe_meth0 (pv 11) T.cl_Joint T.m_Joint_made GMd hr3 bMd .nil pass0))
      (pss_cons (ps_if (pt_not (pt_val (pe_call GG hr2 (by rfl) T.g_l_hall_good kG bG .nil pass0 (pa_cons (pv 19) (pa_cons (pv 15) (pa_cons (pv 16) pa_nil)))))) pss_no pss_nil)
      (pss_cons (ps_expr (pe_meth (pv 19) T.cl_Hall T.m_Hall_belt GBe hr2 bBe0 hd0 pass0 (pa_cons (pv 18) (pa_cons (pv 18) (pa_cons pe_int (pa_cons pe_int pa_nil))))))
      (pss_cons (ps_expr (pe_meth (pv 19) T.cl_Hall T.m_Hall_work GWo hr2 bWo .nil pass0 (pa_cons (pv 14) pa_nil)))
      (pss_cons (ps_if (PW.pt (pw_or (pt_cmpR (op_neD hr.units) (pe_meth0 (pv 9) T.cl_Hall T.m_Hall_names GN hr1 bN .nil pass0) (pe_op op_cat (pv 6) (pe_lst (pa_cons (pv 14) pa_nil))) (nomark _)) (pw_or1 (pt_cmpR (op_neD hr.units) (pe_meth0 (pv 19) T.cl_Hall T.m_Hall_names GN hr1 bN .nil pass0) (pe_op op_cat (pv 15) (pe_lst (pa_cons (pv 14) pa_nil))) (nomark _))))) pss_no pss_nil)
      (pss_cons (ps_if (PW.pt (pw_or (pt_cmpR (op_neD hr.units) (pe_meth0 (pv 11) T.cl_Joint T.m_Joint_inner GIn hr1 bIn .nil pass0) (pe_slice sl_list (pv 12) po_none (po_some (pe_un un_neg pe_int))) (nomark _)) (pw_or1 (pt_cmpR (op_neD hr.units) (pe_meth (pv 11) T.cl_Joint T.m_Joint_unfolded GUn hr1 bUn .nil pass0 (pa_cons (pe_lst (pa_cons (pv 18) (pa_cons (pv 18) pa_nil))) pa_nil)) (pe_op op_rep (pe_slice sl_list (pv 12) po_none (po_some (pe_un un_neg pe_int))) pe_int) (nomark _))))) pss_no pss_nil)
      (pss_cons (ps_set (i := 20) sc_law.nd rfl (.inl rfl) (pe_call GRa hr6 (by rfl) T.g_rates_of kRa bRa .nil pass0 (pa_cons (pe_meth0 (pv 11) T.cl_Joint T.m_Joint_made GMd hr3 bMd .nil pass0) pa_nil)))
      (pss_cons (ps_if (PW.pt (pw_or (pt_not (pt_val (pe_callB call_isi (by rfl) T.b_isinstance (by decide +kernel) (pa_cons (pv 20) (pa_cons (pe_bltn (v := .ty "tuple") (by rfl) T.b_tuple (by decide +kernel) rfl) pa_nil))))) (pw_or (pt_cmpR op_ne (pe_callB call_len_seq (by rfl) T.b_len PySem.boot_len (pa_cons (pv 20) pa_nil)) pe_int (nomark _)) (pw_or1 (pt_cmpR op_notN (pe_ix ix_tup (pv 20) pe_int (fun _ _ => rfl)) pe_non (nomark _)))))) pss_no pss_nil)
      (pss_cons (ps_if (PW.pt (pw_or (pt_not (pt_val (pe_call GWh hr1 (by rfl) T.g_l_wholes kWh bWh .nil pass0 (pa_cons (pe_lst (pa_cons (pe_meth0 (pv 11) T.cl_Joint T.m_Joint_place GPl hr1 bPl .nil pass0) pa_nil)) pa_nil)))) (pw_or1 (pt_cmpR op_ne (pe_meth0 (pv 11) T.cl_Joint T.m_Joint_place GPl hr1 bPl .nil pass0) (pv 18) (nomark _))))) pss_no pss_nil)
      (pss_one (ps_ret (pe_and (pe_call GWh hr1 (by rfl) T.g_l_wholes kWh bWh .nil pass0 (pa_cons (pe_ix ix_tup (pv 20) pe_int (fun _ _ => rfl)) pa_nil)) (pe_and (pe_cmpR (op_eqD hr.units) (pe_ix ix_tup (pv 20) pe_int (fun _ _ => rfl)) (pv 17) (nomark _)) (pe_one (pe_call GG hr2 (by rfl) T.g_l_hall_good kG bG .nil pass0 (pa_cons (pe_meth0 (pv 11) T.cl_Joint T.m_Joint_made GMd hr3 bMd .nil pass0) (pa_cons (pv 15) (pa_cons (pv 16) pa_nil))))))))))))))))))))))))))))))))))))), ?_⟩
    have cz : ∀ k, k ≤ 100 → Wide (cellZ ns k) := fun k hk => cellZ_wide hk hw
    refine Evl.q_asg (v := .int (cellZ ns 0)) (ev_cell (k := 0) (Evl.ev_var rfl) Evl.ev_c hs hl hw (by decide)) fun H1 e1 => ?_
    obtain ⟨m7, em7⟩ := toN (Int.emod_nonneg (cellZ ns 0) (b := 7) (by decide))
    have hm7 : m7 < 7 := by
      have := Int.emod_lt_of_pos (cellZ ns 0) (b := 7) (by decide)
      omega
    obtain ⟨n, hn⟩ : ∃ n, n = 1 + m7 := ⟨_, rfl⟩
    refine Evl.q_asg (v := nV n) (Evl.ev_is (ev_addN (a := 1) (b := m7) Evl.ev_c (Evl.ev_is (Evl.ev_op (Evl.ev_var rfl) Evl.ev_c (Evl.rv_I (i := cellZ ns 0) (j := 7) (by show (0 : Int) < 7; decide))) (congrArg V.int em7))) (by rw [hn])) fun H2 e2 => ?_
    have hs2 := Evl.ex_l (e1.trans e2) hs
    -- rates
    refine Evl.q_asgL (Evl.el_lcR1 (n := (n : Int)) (fun _ => true) (fun j => nV (1 + (cellZ ns (3 + j) % 6).toNat)) (Evl.ea_cons (Evl.ev_var rfl) Evl.ea_nil) ⟨by omega, by omega⟩ (fun _ => by rfl) (fun j H3 e hj => et_yes) (fun j H3 e hj _ => ?_)) fun rl H3 hrl e3 erl => ?_
    · exact ev_addN (a := 1) Evl.ev_c (Evl.ev_is (Evl.ev_op (ev_cell (k := 3 + j) (Evl.ev_var rfl) (ev_addN (a := 3) Evl.ev_c (Evl.ev_var rfl)) (Evl.ex_l e hs2) hl hw (by omega)) Evl.ev_c (Evl.rv_I (i := cellZ ns (3 + j)) (j := 6) (by show (0 : Int) < 6; decide))) (congrArg V.int (Int.toNat_of_nonneg (Int.emod_nonneg _ (by decide))).symm))
    obtain ⟨r0, hr0⟩ : ∃ r0, r0 = (List.range n).map fun j => 1 + (cellZ ns (3 + j) % 6).toNat := ⟨_, rfl⟩
    have erl2 : H3 rl = some (.lst (nVs r0)) := by
      rw [erl, given_all, Int.toNat_natCast, hr0]
      unfold nVs
      rw [List.map_map]
      rfl
    have hr0l : r0.length = n := by rw [hr0, List.length_map, List.length_range]
    have hr0v : ∀ i, i < r0.length → 0 < nth r0 i ∧ nth r0 i ≤ 6 := fun i hi => by
      rw [hr0l] at hi
      have e : nth r0 i = 1 + (cellZ ns (3 + i) % 6).toNat := nth_of (by rw [hr0, List.getElem?_map, List.getElem?_range hi]; rfl)
      have := Int.emod_lt_of_pos (cellZ ns (3 + i)) (b := 6) (by decide)
      rw [e]
      omega
    have hs3 := Evl.ex_l e3 hs2
    -- top
    obtain ⟨i4, ei4⟩ := toN (Int.emod_nonneg (cellZ ns 0 / 7) (b := 4) (by decide))
    have hi4 : i4 < 4 := by
      have := Int.emod_lt_of_pos (cellZ ns 0 / 7) (b := 4) (by decide)
      omega
    have htop : ∀ i, i < 4 → 0 < nth [2, 2, 2, 10 ^ 20] i ∧ nth [2, 2, 2, 10 ^ 20] i ≤ 10 ^ 20 := by decide +kernel
    obtain ⟨ht0, ht1⟩ := htop i4 hi4
    refine Evl.q_asg (v := nV (nth [2, 2, 2, 10 ^ 20] i4)) (ev_ixX (xs := nVs [2, 2, 2, 10 ^ 20]) (j := i4) (Evl.el_lst (Evl.ea_cons Evl.ev_c (Evl.ea_cons Evl.ev_c (Evl.ea_cons Evl.ev_c (Evl.ea_cons (Evl.ev_is (Evl.ev_op Evl.ev_c Evl.ev_c (Evl.rv_I (i := 10) (j := 20) ⟨by decide, by decide, by decide⟩)) (congrArg V.int (by decide))) Evl.ea_nil)))) (by show 4 ≤ 100000; omega)) (Evl.ev_is (Evl.ev_op (Evl.ev_op (Evl.ev_var rfl) Evl.ev_c (Evl.rv_I (i := cellZ ns 0) (j := 7) (div_w (b := 7) (n := 10) (by decide) (by decide) (by decide) (by decide)))) Evl.ev_c (Evl.rv_I (i := cellZ ns 0 / 7) (j := 4) (by show (0 : Int) < 4; decide))) (congrArg V.int ei4)) (nVs_nth (by show i4 < 4; exact hi4))) fun H4 e4 => ?_
    generalize nth [2, 2, 2, 10 ^ 20] i4 = top at ht0 ht1 ⊢
    have hs4 := Evl.ex_l e4 hs3
    have erl4 := e4 _ _ erl2
    have F4 : Fr [] H H4 := .of_ex (((e1.trans e2).trans e3).trans e4)
    -- names
    refine ⟨_, rfl, a, ns, 1, rfl, hs4, hl, hw, by decide, _, rfl, _, n, rfl, by omega, fun names hlen hisn hnnd hsame nl H5 hnl f5 enl => ?_⟩
    have hs5 := f5.sq hs4
    have erl5 := f5.at_ erl4
    -- belts
    refine ⟨Nat.zero_le _, fun bl hbl => ?_⟩
    have f6 : Fr [] H5 (upd H5 bl (.lst [])) := Fr.n0 hbl
    have ebl : (upd H5 bl (.lst [])) bl = some (.lst (rV [])) := upd_same
    have nbl : ∀ {x : Addr} {u : HO}, H5 x = some u → x ∉ [bl] := fun {x u} e => by
      have := ne_of_none e hbl
      simpa using this
    generalize upd H5 bl (.lst []) = H6 at f6 ebl ⊢
    obtain ⟨nb, enb⟩ := toN (Int.emod_nonneg (cellZ ns 0 / 28) (b := 11) (by decide))
    have hnb : nb < 11 := by
      have := Int.emod_lt_of_pos (cellZ ns 0 / 28) (b := 11) (by decide)
      omega
    refine ⟨_, rfl, _, _, rfl, rfl, div_w (b := 28) (n := 10) (by decide) (by decide) (by decide) (by decide), _, _, rfl, rfl, (by show (0 : Int) < 11; decide), _, rfl, ?_, ?_, ?_⟩
    · show -(2 ^ 62) ≤ cellZ ns 0 / 28 % 11
      omega
    · show cellZ ns 0 / 28 % 11 < 2 ^ 62
      omega
    rw [enb, Int.toNat_natCast]
    refine for_rangeN (fun i σ' H' => ∃ (as : List Addr) (bs : List Belt) (v4 : Option V), σ' = [some (.ref a), some (.int (cellZ ns 0)), some (nV n), some (.ref rl), v4, some (nV top), some (.ref nl), some (.ref bl), none, none, none, none, none, none, none, none, none, none, none, none, none] ∧ Fr [bl] H6 H' ∧ H' bl = some (.lst (rV as)) ∧ Tups H' as bs ∧ bs.length = i ∧ ∀ b, b ∈ bs → Drawn r0 b)
      ⟨[], [], none, rfl, Fr.refl _ _, ebl, ⟨rfl, fun i a b h => by simp at h⟩, rfl, fun b hb => by simp at hb⟩ ?_ ?_
    · rintro i σ' H7 hi ⟨as, bs, v4, rfl, f7, e7, tp7, hlen7, hdr⟩
      have hs7 : SqL K H7 a (ns.map V.int) := sql_kept hs5 (f6.nil.trans f7) fun u e => nbl e
      have erl7 := f7.kp _ _ (f6.at_ erl5) (nbl erl5)
      refine ⟨_, rfl, .inl ⟨rfl, _, SqL.of e7⟩, _, rfl, _, rfl, _, _, rfl, rfl, a, ns, 10 + i, (by show [V.ref a, V.int ((10 : Int) + (i : Int))] = [V.ref a, V.int ((10 + i : Nat) : Int)]; rw [Int.natCast_add]; rfl), hs7, hl, hw, by omega, _, rfl, _, rfl, cellZ ns (10 + i), rl, r0, top, rfl, cz _ (by omega), erl7, by omega, by omega, hr0v, ht0, ht1, fun b hb p H8 hp f8 ep => ?_⟩
      have e8 := f8.at_ e7
      refine ⟨bl, _, _, rfl, rfl, e8, by rw [rV_len, tp7.1]; exact small_line' (by omega), ?_⟩
      have fl : Fr [bl] H8 (upd H8 bl (.lst (rV as ++ [.ref p]))) := (Fr.refl _ H8).mutL (.inl (by simp)) e8
      refine ⟨as ++ [p], bs ++ [b], _, rfl, (f7.trans f8.nil).trans fl, ?_, ((tp7.mono f8).mono fl).snoc (fl.tp _ _ ep), by rw [List.length_append, hlen7]; rfl, fun c hc => ?_⟩
      · rw [upd_same]
        unfold rV
        rw [List.map_append]
        rfl
      · rcases List.mem_append.mp hc with z | z
        · exact hdr c z
        · rw [List.mem_singleton.mp z]; exact hb
    · rintro σ' H7 ⟨as, bs, v4, rfl, f7, e7, tp7, hlen7, hdr⟩
      have hs7 : SqL K H7 a (ns.map V.int) := sql_kept hs5 (f6.nil.trans f7) fun u e => nbl e
      have F5 : Fr [] H H5 := F4.trans f5
      have F7 : Fr [] H5 H7 := (f6.nil.trans f7).shrink fun b hb => .inr (by rw [List.mem_singleton.mp hb]; exact hbl)
      have erl7 := F7.at_ erl5
      have enl7 := F7.at_ enl
      subst hlen
      have hB7 : Bls H7 bl bs := ⟨as, e7, tp7⟩
      have B0 : Bal names.length bs r0 := by
        refine ⟨hr0l, fun w hw => (hr0v w (by omega)).1, fun w hw => (hr0v w (by omega)).2, fun e he => ?_, fun e he => (hdr e he).bal⟩
        have D := hdr e he
        have h1 := D.g
        have h2 := D.t
        have h3 := D.gv
        have h4 := D.tk
        have h5 := D.st
        have b1 : (2 : Nat) ^ 80 ≤ 2 ^ 100 := by decide
        have b2 : (2 : Nat) ^ 90 ≤ 2 ^ 100 := by decide
        exact ⟨by omega, by omega, h3.1, h4.1, by omega, by omega, by omega⟩
      have Rs := least_rts B0
      have hrle : ∀ w, w < names.length → nth (least r0 names.length bs) w ≤ nth r0 w := fun w hw => by
        rw [least_nth hw]
        exact Nat.div_le_self _ _
      have hn7 : names.length ≤ 7 := by omega
      have hn0 : 0 < names.length := by omega
      -- least
      refine ⟨_, rfl, _, rfl, rl, bl, r0, bs, names.length, rfl, erl7, hB7, B0, by omega, fun r2 H8 hr2 f8 er2 => ?_⟩
      generalize least r0 names.length bs = r at Rs hrle er2
      have F8 : Fr [] H5 H8 := F7.trans f8
      -- group
      refine ⟨_, rfl, a, ns, 2, rfl, f8.sq hs7, hl, hw, by decide, _, rfl, _, names.length, rfl, cz 2 (by decide), hn0, hn7, fun L hLnd hLne hLlt gl H9 hgl f9 egl => ?_⟩
      have F9 : Fr [] H5 H9 := F8.trans f9
      have enl9 := F9.at_ enl
      have hB9 := (hB7.kept f8 (by simp)).kept f9 (by simp)
      have er9 := f9.at_ er2
      have hdrw : ∀ e, e ∈ bs → e.gv < 2 ^ 90 ∧ e.tk < 2 ^ 90 := fun e he => by
        have D := hdr e he
        have h3 := D.gv
        have h4 := D.tk
        have b1 : (2 : Nat) ^ 80 ≤ 2 ^ 90 := by decide
        exact ⟨by omega, by omega⟩
      have O : HallOk names bs := ⟨hisn, hnnd, by omega, fun e he => ⟨(B0.bel e he).1, (B0.bel e he).2.1⟩, fun e he => ⟨(hdr e he).gv.1, (hdr e he).tk.1⟩, by omega⟩
      have hst : ∀ b, b ∈ bs → b.tk * nth r b.t ≤ b.st := fun b hb => Nat.le_trans (Nat.mul_le_mul_left _ (hrle _ (B0.bel b hb).2.1)) (hdr b hb).st.1
      -- hall
      refine ⟨_, rfl, _, rfl, nl, bl, names, bs, rfl, enl9, hB9, O, fun hh k1 k2 H10 hh0 hk10 hk20 A10 f10 => ?_⟩
      have enl10 := f10.at_ enl9
      have hB10 := hB9.kept f10 (by simp)
      have er10 := f10.at_ er9
      have egl10 := f10.at_ egl
      -- handed
      refine ⟨_, rfl, gl, _, rfl, .inl (SqL.of egl10), fun hd hhd => ?_⟩
      have f11 : Fr [] H10 (upd H10 hd (.lst (nVs L))) := Fr.n0 hhd
      have ehd : (upd H10 hd (.lst (nVs L))) hd = some (.lst (nVs L)) := upd_same
      generalize upd H10 hd (.lst (nVs L)) = H11 at f11 ehd ⊢
      have A11 := A10.keep f11
      -- the joint
      refine ⟨_, rfl, _, rfl, fun j dxj hj hdxj hne => ?_⟩
      have g12 : Fr [] H11 (upd (upd H11 dxj (.own j)) j (.ins (He.ga K "Joint") dxj [])) := (Fr.n0 hdxj).new (by rw [upd_ne hne.symm]; exact hj)
      have ej : (upd (upd H11 dxj (.own j)) j (.ins (He.ga K "Joint") dxj [])) j = some (.ins (He.ga K "Joint") dxj []) := upd_same
      generalize upd (upd H11 dxj (.own j)) j (.ins (He.ga K "Joint") dxj []) = H12 at g12 ej ⊢
      have A12 := A11.keep g12
      have ehd12 := g12.at_ ehd
      refine ⟨j, dxj, hh, hd, k1, k2, names, bs, r, L, rfl, ej, A12, O, Rs, ehd12, hLnd, hLne, hLlt, hst, fun M row wl kl cl tl H13 hMp hMs hrow J13 w0 k0 c0 t0 f13 => ⟨rfl, ?_⟩⟩
      have G : Grp names.length M := ⟨hMp.nodup_iff.mpr hLnd, fun e => by
        rw [e] at hMp
        exact hLne (List.nil_perm.mp hMp), fun x hx => hLlt x (hMp.mem_iff.mp hx)⟩
      -- what may change from here on: the handed list, the hall's two
      have nS : ∀ {x : Addr} {u : HO}, H9 x = some u → x ∉ [hd, k1, k2] ∧ x ≠ j ∧ x ≠ hh := fun {x u} e => by
        have n1 : x ≠ k1 := ne_of_none e hk10
        have n2 : x ≠ k2 := ne_of_none e hk20
        have n3 : x ≠ hd := ne_of_none (f10.at_ e) hhd
        have n4 : x ≠ j := ne_of_none (f11.at_ (f10.at_ e)) hj
        have n5 : x ≠ hh := ne_of_none e hh0
        exact ⟨by simp [n1, n2, n3], n4, n5⟩
      have up13 : ∀ {x : Addr} {u : HO}, H9 x = some u → H13 x = some u := fun {x u} e => f13.kp _ _ (g12.at_ (f11.at_ (f10.at_ e))) (by simpa using (nS e).2.1)
      obtain ⟨dxh, ehh⟩ := A12.ob
      obtain ⟨asb, ek2, tpk⟩ := A12.bl
      have njS : ∀ {x : Addr}, H12 x = none → x ∉ [hd, k1, k2] := fun {x} e => by
        have n1 : x ≠ k1 := (ne_of_none A12.nm e).symm
        have n2 : x ≠ k2 := (ne_of_none ek2 e).symm
        have n3 : x ≠ hd := (ne_of_none ehd12 e).symm
        simp [n1, n2, n3]
      have njj : j ∉ [hd, k1, k2] := by
        have n3 : j ≠ hd := (ne_of_none ehd hj).symm
        have n1 : j ≠ k1 := (ne_of_none A11.nm hj).symm
        have n2 : j ≠ k2 := by
          obtain ⟨as3, e3, _⟩ := A11.bl
          exact (ne_of_none e3 hj).symm
        simp [n1, n2, n3]
      have nhh : hh ≠ hd := by
        obtain ⟨dx3, e3⟩ := A10.ob
        exact ne_of_none e3 hhd
      have njh : hh ≠ j := by
        obtain ⟨dx3, e3⟩ := A11.ob
        exact ne_of_none e3 hj
      have nk1 : k1 ≠ hd := ne_of_none A10.nm hhd
      have nk2 : k2 ≠ hd := by
        obtain ⟨as3, e3, _⟩ := A10.bl
        exact ne_of_none e3 hhd
      have nk1j : k1 ≠ j := ne_of_none A11.nm hj
      have nk2j : k2 ≠ j := by
        obtain ⟨as3, e3, _⟩ := A11.bl
        exact ne_of_none e3 hj
      have A13 : HallAt K H13 hh k1 k2 names bs := A12.kept f13 (by simpa using njh) (by simpa using nk1j) (by simpa using nk2j)
      have ehd13 : H13 hd = some (.lst (nVs L)) := f13.kp _ _ ehd12 (by
        have := ne_of_none ehd hj
        simpa using this)
      have JJ : ∀ {H' : Hp}, Fr [hd, k1, k2] H13 H' → JointAt K H' j wl kl cl tl names bs M row (tnOf r M) := fun {H'} f => J13.kept f njj (njS w0) (njS k0) (njS c0) (njS t0)
      have enl13 := up13 enl9
      have er13 := up13 er9
      have egl13 := up13 egl
      have hB13 : Bls H13 bl bs := by
        obtain ⟨as4, e4, t4⟩ := hB9
        exact ⟨as4, up13 e4, (((t4.mono f10).mono f11).mono g12).mono f13⟩
      have nlS : nl ∉ [hd, k1, k2] := (nS enl9).1
      have rS : r2 ∉ [hd, k1, k2] := (nS er9).1
      have gS : gl ∉ [hd, k1, k2] := (nS egl).1
      have bS : bl ∉ [hd, k1, k2] := by
        obtain ⟨as4, e4, _⟩ := hB9
        exact (nS e4).1
      clear hs5 erl5 f6 ebl nbl f7 e7 tp7 F5 F7 erl7 enl7 hB7 F8 F9 enl9 hB9 er9 enl10 hB10 er10 egl10 f10 f11 ehd A11 g12 ej A12 ehd12 A10 f8 f9 egl er2 F4 f5 enl hs7
      have OJ : HallOk (calledL names M) (tiedL names.length M (tnOf r M) bs) := joined_ok O Rs G
      have RJ := joined_rts Rs G hdrw
      have hcl : (calledL names M).length = (keptL names.length M).length := by unfold calledL; rw [List.length_map]
      have hkle := kept_len (n := names.length) (M := M)
      have hpe := place_eq G hMs
      have hpl : (keptL names.length M).idxOf (nth M 0) < (keptL names.length M).length := idx_lt G.fk
      have hMl : M.length ≤ names.length := nodup_le G.nd G.lt
      have hLl : L.length ≤ names.length := nodup_le hLnd hLlt
      have nIn : ∀ a b c d f, (jF a f b c d).lookup ("inner" : Str) = none := fun a b c d f => jF_get _ _ _ _ _ (by decide +kernel)
      have nMd : ∀ a b c d f, (jF a f b c d).lookup ("made" : Str) = none := fun a b c d f => jF_get _ _ _ _ _ (by decide +kernel)
      have nFi : ∀ a b, (hF a b).lookup ("fill" : Str) = none := fun a b => hF_no _ _ (by decide +kernel) (by decide +kernel)
      have nBe : ∀ a b, (hF a b).lookup ("belt" : Str) = none := fun a b => hF_no _ _ (by decide +kernel) (by decide +kernel)
      have nWo : ∀ a b, (hF a b).lookup ("work" : Str) = none := fun a b => hF_no _ _ (by decide +kernel) (by decide +kernel)
      -- handed.append(0)
      refine ⟨_, rfl, .inl ⟨rfl, _, SqL.of ehd13⟩, hd, _, _, rfl, rfl, ehd13, by rw [nVs_len]; exact small_line' (by omega), ?_⟩
      have F14 : Fr [hd, k1, k2] H13 (upd H13 hd (.lst (nVs L ++ [.int 0]))) := (Fr.refl _ H13).mutL (.inl (by simp)) ehd13
      have A14 : HallAt K (upd H13 hd (.lst (nVs L ++ [.int 0]))) hh k1 k2 names bs := A13.kept ((Fr.refl [hd] H13).mutL (.inl (by simp)) ehd13) (by simpa using nhh) (by simpa using nk1) (by simpa using nk2)
      generalize upd H13 hd (.lst (nVs L ++ [.int 0])) = H14 at F14 A14 ⊢
      -- inner
      obtain ⟨dj14, ej14⟩ := (JJ F14).ob
      refine ⟨_, rfl, j, dj14, _, rfl, ej14, nIn _ _ _ _ _, j, wl, kl, cl, tl, names, bs, M, row, tnOf r M, rfl, JJ F14, fun ir H15 hir f15 eir => ?_⟩
      have hirF : H13 ir = none := F14.free hir
      refine ⟨_, rfl, .inl ⟨rfl, _, SqL.of eir⟩, _, rfl, ir, _, _, rfl, rfl, eir, by rw [nVs_len]; exact small_line' (by omega), ?_⟩
      have F16 : Fr [hd, k1, k2] H13 (upd H15 ir (.lst (nVs row ++ [nV names.length]))) := (F14.trans f15.nil).mutL (.inr hirF) eir
      have eir16 : (upd H15 ir (.lst (nVs row ++ [nV names.length]))) ir = some (.lst (nVs (row ++ [names.length]))) := by rw [upd_same, nVs_app]; rfl
      have A15 := A14.keep f15
      have ni : hh ≠ ir ∧ k1 ≠ ir ∧ k2 ≠ ir := by
        obtain ⟨d3, e3⟩ := A14.ob
        obtain ⟨as3, e4, _⟩ := A14.bl
        exact ⟨ne_of_none e3 hir, ne_of_none A14.nm hir, ne_of_none e4 hir⟩
      have A16 : HallAt K (upd H15 ir (.lst (nVs row ++ [nV names.length]))) hh k1 k2 names bs := A15.kept ((Fr.refl [ir] H15).mutL (.inl (by simp)) eir) (by simpa using ni.1) (by simpa using ni.2.1) (by simpa using ni.2.2)
      generalize upd H15 ir (.lst (nVs row ++ [nV names.length])) = H16 at F16 eir16 A16 ⊢
      have irS : ir ∉ [k1, k2] := by simp [Ne.symm ni.2.1, Ne.symm ni.2.2]
      have to3 : ∀ {H' : Hp}, Fr [k1, k2] H16 H' → Fr [hd, k1, k2] H13 H' := fun {H'} f => F16.trans (f.mono fun b hb => by simp at hb; simp [hb])
      have eb16 : Bls H16 bl bs := hB13.kept F16 bS
      -- fill
      refine Evl.q_cut (M := fun σ' H' => ∃ bs2, σ' = [some (.ref a), some (.int (cellZ ns 0)), some (nV names.length), some (.ref r2), v4, some (nV top), some (.ref nl), some (.ref bl), some (.ref gl), some (.ref hh), some (.ref hd), some (.ref j), some (.ref ir), none, none, none, none, none, none, none, none] ∧ Fr [k1, k2] H16 H' ∧ HallAt K H' hh k1 k2 names bs2 ∧ bs2.length ≤ 20) ?_ ?_
      · refine Evl.s_when (b := !bs.isEmpty) (Evl.et_test (ev_neBNil (Evl.ev_var rfl) eb16)) (fun hc H17 e17 => ?_) (fun hc H17 e17 => ⟨bs, rfl, (Fr.of_ex e17).nil, A16.keep (.of_ex e17), by omega⟩)
        have A17 := A16.keep (.of_ex e17)
        obtain ⟨as3, eb3, t3⟩ := eb16.kept (Fr.of_ex e17) (by simp)
        obtain ⟨b0, hb0⟩ : ∃ b0, bs[0]? = some b0 := by
          cases bs with
          | nil => cases hc
          | cons x y => exact ⟨x, rfl⟩
        obtain ⟨a0, ha0, hta0⟩ := t3.get hb0
        obtain ⟨d17, e17h⟩ := A17.ob
        refine ⟨_, rfl, hh, d17, _, rfl, e17h, nFi _ _, _, rfl, bl, _, 0, _, rfl, rfl, SqL.of eb3, atI_nat (j := 0) (rV_at ha0), a0, _, 4, _, rfl, rfl, SqT.of hta0, rfl, _, _, rfl, rfl, hh, k1, k2, names, bs, 0, b0, b0.st + 1, rfl, A17, hb0, fun v H18 A18 f18 => ?_⟩
        exact ⟨_, rfl, (Fr.of_ex e17).nil.trans (f18.mono fun b hb => by simp at hb; simp [hb]), A18, by rw [List.length_set]; omega⟩
      · rintro σ17 H17 ⟨bs2, rfl, f17, A17, hbs2⟩
        -- a belt more
        obtain ⟨d17, e17h⟩ := A17.ob
        refine ⟨_, rfl, hh, d17, _, rfl, e17h, nBe _ _, hh, k1, k2, names, bs2, ⟨0, 0, 1, 1, 1⟩, rfl, A17, hn0, hn0, by decide, by decide, by omega, fun H18 A18 f18 => ?_⟩
        have g18 : Fr [k1, k2] H16 H18 := f17.trans (f18.mono fun b hb => by simp at hb; simp [hb])
        have enl18 := (to3 g18).kp _ _ enl13 nlS
        -- late
        refine Evl.q_asg (v := .str (lateOf names)) (ev_ixX (j := 0) (Evl.el_lcNL (xs := lates.map V.str) (fun i => !decide (lates.getD i "" ∈ names)) (fun i => V.str (lates.getD i "")) (Evl.el_lst (Evl.ea_cons Evl.ev_c (Evl.ea_cons Evl.ev_c Evl.ea_nil)) (by show 2 ≤ 100000; omega)) (by show 2 ≤ 40000; omega) (fun _ => by rfl) (fun i x H19 e hx => ?_) (fun i x H19 e hx _ => ?_)) Evl.ev_c (late_list hsame)) fun H19 e19 => ?_
        · have hx2 : x = .str (lates.getD i "") := by
            match i, hx with
            | 0, hx => exact (Option.some.inj hx).symm
            | 1, hx => exact (Option.some.inj hx).symm
            | i + 2, hx => cases hx
          rw [hx2]
          exact Evl.et_test (Evl.ev_is (Evl.ev_op (Evl.ev_var rfl) (Evl.ev_var rfl) (Evl.rv_niL (SqL.of (e _ _ enl18)) rfl (flat_strs _))) (by rw [inV_str]))
        · have hx2 : x = .str (lates.getD i "") := by
            match i, hx with
            | 0, hx => exact (Option.some.inj hx).symm
            | 1, hx => exact (Option.some.inj hx).symm
            | i + 2, hx => cases hx
          rw [hx2]
          exact Evl.ev_var rfl
        · have g19 : Fr [k1, k2] H16 H19 := g18.trans (Fr.of_ex e19).nil
          have A19 := A18.keep (.of_ex e19)
          have hlate := lateOf_name names
          have hnew := lateOf_new hsame
          generalize lateOf names = late at hlate hnew ⊢
          obtain ⟨d19, e19h⟩ := A19.ob
          refine ⟨_, rfl, hh, d19, _, rfl, e19h, nWo _ _, _, rfl, hh, k1, k2, names, _, late, rfl, A19, hlate, hnew, by omega, fun H20 A20 f20 => ?_⟩
          have g20 : Fr [k1, k2] H16 H20 := g19.trans (f20.mono fun b hb => by simp at hb; simp [hb])
          have F20 := to3 g20
          -- the joined hall, reckoned
          refine ⟨_, rfl, _, rfl, _, rfl, _, rfl, nl, bl, r2, gl, names, bs, r, L, M, rfl, F20.kp _ _ enl13 nlS, hB13.kept F20 bS, F20.kp _ _ er13 rS, F20.kp _ _ egl13 gS, Rs, by omega, by omega, G, hMp, hMs, fun pj a1 a2 a3 HC hpj epj ea1 ha2 ea3 f21 => ?_⟩
          have FC : Fr [hd, k1, k2] H13 HC := F20.trans f21.nil
          have JC := JJ FC
          have AC := A20.keep f21
          have irC : HC ir = some (.lst (nVs (row ++ [names.length]))) := f21.at_ (g20.kp _ _ eir16 irS)
          have nlC := FC.kp _ _ enl13 nlS
          refine ⟨pj, _, rfl, SqT.of epj, rfl, _, _, rfl, _, _, rfl, _, _, rfl, _, _, rfl, rfl, ?_⟩
          rw [hpe] at *
          -- made anew
          obtain ⟨djC, ejC⟩ := JC.ob
          refine ⟨_, rfl, j, djC, _, rfl, ejC, nMd _ _ _ _ _, j, wl, kl, cl, tl, names, bs, M, row, tnOf r M, rfl, JC, OJ, fun q' q1 q2 H23 hq hq1 hq2 A23 f23 => ?_⟩
          refine g_go ?_
          dsimp only
          refine Evl.q_when (b := !true) ?_ (fun h => by cases h) (fun _ H24 e24 => ?_)
          · refine Evl.et_not (Evl.et_B ?_)
            exact ev_good (Evl.ev_var rfl) (Evl.ev_var rfl) (Evl.ev_var rfl) A23 (f23.at_ ea1) (ha2.kept f23 (by simp)) OJ.isn
          have f24 : Fr [] HC H24 := f23.trans (.of_ex e24)
          have A24 := A23.keep (.of_ex e24)
          obtain ⟨d24, e24h⟩ := A24.ob
          have hOle := OJ.le
          have hObl := OJ.bl
          refine ⟨_, rfl, q', d24, _, rfl, e24h, nBe _ _, _, rfl, _, rfl, q', q1, q2, _, _, ⟨nth M 0, nth M 0, 2, 1, 0⟩, rfl, A24, by rw [hcl]; exact hpl, by rw [hcl]; exact hpl, by show 0 < 2; decide, by show 0 < 1; decide, by omega, fun H25 A25 f25 => ?_⟩
          have f25' : Fr [] HC H25 := (f24.nil.trans f25).shrink fun b hb => .inr (by rw [List.mem_singleton.mp hb]; exact hq2)
          obtain ⟨d25, e25h⟩ := A25.ob
          have hnewc : late ∉ calledL names M := fun hc => by
            obtain ⟨k, hk, e⟩ := List.mem_map.mp hc
            exact hnew (e ▸ nmS_mem (mem_kept.mp hk).1)
          refine ⟨_, rfl, q', d25, _, rfl, e25h, nWo _ _, _, rfl, q', q1, q2, _, _, late, rfl, A25, hlate, hnewc, by omega, fun H26 A26 f26 => ?_⟩
          have f26' : Fr [] HC H26 := (f25'.nil.trans f26).shrink fun b hb => .inr (by rw [List.mem_singleton.mp hb]; exact hq1)
          have hS1 : ∀ x, x ∈ names ++ [late] → IsName x := fun x hx => (List.mem_append.mp hx).elim (O.isn x) fun z => by rw [List.mem_singleton.mp z]; exact hlate
          have hS2 : ∀ x, x ∈ calledL names M ++ [late] → IsName x := fun x hx => (List.mem_append.mp hx).elim (OJ.isn x) fun z => by rw [List.mem_singleton.mp z]; exact hlate
          have lm : ∀ l : List Str, l.map V.str ++ [V.str late] = (l ++ [late]).map V.str := fun l => by rw [List.map_append]; rfl
          dsimp only
          refine Evl.q_when (b := false || false) ?_ (fun h => by cases h) (fun _ H27 e27 => ?_)
          · refine Evl.et_or (Evl.et_test (ev_neSX hS1 (el_names T (Evl.ev_var rfl) (AC.keep f26')) (lm names ▸ el_snoc (Evl.ev_var rfl) (Evl.ev_var rfl) (f26'.at_ nlC) (by rw [List.length_map]; omega)))) fun _ => Evl.et_test (ev_neSX hS2 (el_names T (Evl.ev_var rfl) A26) (lm (calledL names M) ▸ el_snoc (Evl.ev_var rfl) (Evl.ev_var rfl) (f26'.at_ ea1) (by rw [List.length_map]; omega)))
          have f27 : Fr [] HC H27 := f26'.trans (.of_ex e27)
          refine Evl.q_when (b := false || false) ?_ (fun h => by cases h) (fun _ H28 e28 => ?_)
          · refine Evl.et_or (Evl.et_test (ev_neNX (ns := row) (el_inner (Evl.ev_var rfl) (JC.keep f27)) (el_cutlast (Evl.ev_var rfl) (f27.at_ irC)))) fun _ => Evl.et_test (ev_neNX (ns := row ++ row) ?_ ?_)
            · rw [nVs_app]
              exact el_unfolded (Evl.ev_var rfl) (Evl.ev_var rfl) (JC.keep f27) hpl hrow
            · rw [nVs_app]
              exact el_twice (el_cutlast (Evl.ev_var rfl) (f27.at_ irC)) (by rw [nVs_len]; exact hrow)
          have f28 : Fr [] HC H28 := f27.trans (.of_ex e28)
          -- its rates
          have J28 := JC.keep f28
          obtain ⟨d28, e28j⟩ := J28.ob
          rw [← hcl] at RJ
          refine ⟨_, rfl, j, d28, _, rfl, e28j, nMd _ _ _ _ _, j, wl, kl, cl, tl, names, bs, M, row, tnOf r M, rfl, J28, OJ, fun q3 q4 q5 H29 hq3 hq4 hq5 A29 f29 => ?_⟩
          refine ⟨q3, q4, q5, _, _, _, rfl, A29, RJ, by omega, fun fp fl H30 hfp hfl hfpl f30 efp efl => ?_⟩
          have f30' : Fr [] HC H30 := (f28.trans f29).trans f30
          refine g_go ?_
          dsimp only
          refine Evl.q_when (b := !true || (!decide (2 = 2) || false)) ?_ (fun h => by simp at h) (fun _ H31 e31 => ?_)
          · refine Evl.et_or (Evl.et_not (Evl.et_B (ev_isi (Evl.ev_var rfl) (fun H' e => .base (.tup (e _ _ efp))) k_tt))) fun _ => Evl.et_or (et_neN (a := 2) (b := 2) (lenT (Evl.ev_var rfl) efp) Evl.ev_c) fun _ => Evl.et_test (Evl.ev_is (Evl.ev_op (ev_ixT (j := 1) (Evl.ev_var rfl) efp rfl) Evl.ev_c (fun H1 _ Q1 q1 => ⟨rfl, q1 H1 (Evl.Ex.refl H1)⟩)) (by simp))
          have f31 : Fr [] HC H31 := f30'.trans (.of_ex e31)
          have efp31 := e31 _ _ efp
          have efl31 := e31 _ _ efl
          refine Evl.q_when (b := !true || !decide (nth M 0 = nth M 0)) ?_ (fun h => by simp at h) (fun _ H32 e32 => ?_)
          · refine Evl.et_or (Evl.et_not (Evl.et_B (ev_wholes (xs := [nth M 0]) (Evl.el_lst (Evl.ea_cons (ev_place (Evl.ev_var rfl) (JC.keep f31)) Evl.ea_nil) (by show 1 ≤ 100000; omega))))) fun _ => et_neN (ev_place (Evl.ev_var rfl) (JC.keep f31)) (Evl.ev_var rfl)
          have f32 : Fr [] HC H32 := f31.trans (.of_ex e32)
          have efp32 := e32 _ _ efp31
          have efl32 := e32 _ _ efl31
          refine Evl.s_ret (ev_andV (ev_wholesV (ev_ixT (j := 0) (Evl.ev_var rfl) efp32 rfl) efl32) (ev_andV (Evl.ev_op (ev_ixT (j := 0) (Evl.ev_var rfl) efp32 rfl) (Evl.ev_var rfl) (ev_eqL efl32 (f32.at_ ea3))) (ev_goodMade (Evl.ev_var rfl) (Evl.ev_var rfl) (Evl.ev_var rfl) (JC.keep f32) OJ (f32.at_ ea1) (ha2.kept f32 (by simp))))) fun H33 _ => q H33
end
end RH
/-! The end: the row holds. -/
namespace RH
open PySem PySem.Spec PyProof.Rows L2
/-- the law over a head by facts, with the script's bits -/
theorem walk_bits {l : PySem.W.OpenLaw} {n k : Nat} {q : Program} {loose : List Str} {XP : (Str → Option Value) → Heap → Prop} {YP : World → Heap → Prop} {d : DefRec} {x : Str} (most : l.most = some n) (small : n ≤ sizeLine) (plain : d.params.defaults = []) (room : Room k callerA)
    (say : ∀ (w : World) (mg : Str → Option Value) (fa : Addr) (h : Heap), YP w h → h.Ns mainGlobals mg → mg d.name = some (.ref fa) → ∃ (K : PySem.W.Frag) (fd : FuncData) (sp : Sp), K.In h ∧ (∀ (s : Shared) (u : Value), BindsTo s fd ⟨[u], []⟩ [(x, u)]) ∧
      (∀ (H : Hp) (a : Addr) (ns : List Int), ns.length ≤ n → (∀ z ∈ ns, Builtin.Int.intBits z ≤ 1048576) → SqL K H a (ns.map V.int) → sp [.ref a] H (fun v _ => v = .bl true) fun _ _ _ => False) ∧ ∀ base : Heap, K.In base → base.Ns mainGlobals mg → FnOk l.prog w K mg base CX0 k fa fd [x] sp) :
    PySem.W.WalkO q loose XP YP l.row.toRowW d [] (fun f vs => PySem.call f vs) := by
  refine Att.attach_callB most plain fun w s₀ t mg mb fa o pm cd doc a vs ns gr yp ho hd hcd hmg hobj nums len bits gens => ?_
  obtain ⟨K, fd, sp, kin, bind, keep, ok⟩ := say w mg fa _ yp gr.T.g hmg
  exact law_call kin gr.T.g gr.T.b gr.T.builtins gr.T.nolimit gens hobj nums (Nat.le_trans len small) room ok bind (fun H _ hS => keep H a ns len bits hS) fun H e s' z => z
theorem facts {P : Program} {w : World} {K : PySem.W.Frag} {h : Heap} {mg : Str → Option Value} {fa : Addr} (X : K.In h) (G : h.Ns mainGlobals mg) (hfa : mg ("law" : Str) = some (.ref fa)) (c : He.SaysD faL fnL K) :
    ∃ fd : FuncData, (∀ (s : Shared) (u : Value), BindsTo s fd ⟨[u], []⟩ [("_law_script", u)]) ∧ ∀ base : Heap, K.In base → base.Ns mainGlobals mg → FnOk P w K mg base CX0 10 fa fd ["_law_script"] (spLaw K) := by
  have T : Tx K mg := ⟨c, h, X, G⟩
  obtain ⟨fd, F⟩ := T.df_law
  have e := hfa.symm.trans T.g_law
  cases e
  have b := FunD.bindsA (ps := ["_law_script"]) F fun _ _ _ _ _ _ us hl => match us, hl with | [_], _ => rfl
  exact ⟨fd, fun s u => b s [u] rfl, fun base _ _ => ok_law T F⟩
end RH
open PySem PySem.W PySem.Calls PyProof.Rows
theorem PySem.Challenge.cw_ratehall_k22_joined_hall_holds : PySem.Challenge.rw_ratehall_k22_joined_hall.Holds := by
  w_on; o_law
  refine HandSHeadRun.head_any (r := OpenLaw.row PySem.Challenge.rw_ratehall_k22_joined_hall) (q := view (OpenLaw.row PySem.Challenge.rw_ratehall_k22_joined_hall).prog [54]) (H := RH.hk) (ob := RH.ob) (M := 6000) (loose := RH.looseL) (d := HandSHeadRun.topDef (OpenLaw.row PySem.Challenge.rw_ratehall_k22_joined_hall).prog 54) (kwd := []) RH.ob_eq
    (by kernel_rfl) (fun s => by kernel_rfl) RH.run (by kernel_rfl) (by kernel_rfl) (by kernel_rfl) (by rfl) (by first | assumption | decide +kernel) (by decide +kernel) ⟨rfl, rfl, rfl, rfl, rfl, by decide +kernel⟩ ?hw ?hc
  case hw => w_witness2
  case hc =>
    refine RH.walk_bits (l := PySem.Challenge.rw_ratehall_k22_joined_hall) (n := 63) (k := 10) (x := "_law_script") rfl (by decide) (by kernel_rfl) ⟨rfl, by decide, by decide⟩ ?F
    intro w mg fa h Y G hmg0
    obtain ⟨K, KX, c⟩ := Y
    have hmg : mg ("law" : PySem.Str) = some (.ref fa) := by
      have e : (HandSHeadRun.topDef (OpenLaw.row PySem.Challenge.rw_ratehall_k22_joined_hall).prog 54).name = ("law" : PySem.Str) := by kernel_rfl
      rw [← e]
      exact hmg0
    obtain ⟨fd, hb, hF⟩ := RH.facts (P := (PySem.Challenge.rw_ratehall_k22_joined_hall).prog) (w := w) KX G hmg c
    exact ⟨K, fd, RH.spLaw K, KX, hb, fun H a ns hl hz hS => ⟨a, ns, rfl, hS, hl, hz, fun _ => rfl⟩, hF⟩
