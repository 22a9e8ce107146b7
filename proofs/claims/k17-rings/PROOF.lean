import PyProof.Rows.All
import Wide.All
import OpenK.AllK
import Wide.FinOn
import HandS.ForMost
import HandS.Defaults
import HandS.HeadEnd
import HandS.HeadHook1
import HandS.HeadHook2
import HandS.Exc
import HandS.ExcField
import KE.KIsAll
import KE.KTryMore
import HandS.Head0
import HandS.Head1
import HandS.Head2
import HandS.More
import HandS.WordsExc
import HandS.Evl
import HandS.Walk
import HandS.TupMul
import HandS.TupLen
import HandS.Style
import HandS.IsInst
import KE.GoesNew
import KE.KDictKeyed
import KE.KDictDisplayH
import HandS.Text
import PyProof.StrOps2
import KE.DatumOrd
import HandS.ExcOwn
import HandS.CallSlots
import HandS.TryMany
import HandS.ExcInit
import HandS.RaiseMore
import KE.KExcIs
import HandS.ExcIs
import PyProof.ReprRoads
import HandS.NoneIn
import HandS.Ends
import PySem.Challenge.RW_afterwise_k17_whole_rings_judged
/-! text HeadA -/
set_option Elab.async false
set_option linter.all false
set_option maxRecDepth 100000
set_option maxHeartbeats 0
namespace Afw
open PySem PySem.Spec PyProof.Rows L2
def top (i : Nat) : Stmt := PySem.Challenge.pw_afterwise_k17_whole_rings_judged.main.body.getD i (.Pass ⟨0, 0, 0, 0⟩)
def d_WrongThing_init : He.DefD := ⟨("WrongThing", some "__init__"), "__init__", "WrongThing.__init__", defArgs (inClass (top 3) 0), defBody (inClass (top 3) 0), defScope (inClass (top 3) 0), [], []⟩
def d_Unlike_init : He.DefD := ⟨("Unlike", some "__init__"), "__init__", "Unlike.__init__", defArgs (inClass (top 14) 0), defBody (inClass (top 14) 0), defScope (inClass (top 14) 0), [], []⟩
def d_is_integer : He.DefD := ⟨("is_integer", none), "is_integer", "is_integer", defArgs (top 19), defBody (top 19), defScope (top 19), [], []⟩
def d_is_count : He.DefD := ⟨("is_count", none), "is_count", "is_count", defArgs (top 20), defBody (top 20), defScope (top 20), [], []⟩
def d_is_listed : He.DefD := ⟨("is_listed", none), "is_listed", "is_listed", defArgs (top 21), defBody (top 21), defScope (top 21), [], []⟩
def d_deep : He.DefD := ⟨("deep", none), "deep", "deep", defArgs (top 22), defBody (top 22), defScope (top 22), [], []⟩
def d_is_asks : He.DefD := ⟨("is_asks", none), "is_asks", "is_asks", defArgs (top 23), defBody (top 23), defScope (top 23), [], []⟩
def d_check_asks : He.DefD := ⟨("check_asks", none), "check_asks", "check_asks", defArgs (top 24), defBody (top 24), defScope (top 24), [], []⟩
def d_row_over : He.DefD := ⟨("row_over", none), "row_over", "row_over", defArgs (top 25), defBody (top 25), defScope (top 25), [], []⟩
def d_integers : He.DefD := ⟨("integers", none), "integers", "integers", defArgs (top 29), defBody (top 29), defScope (top 29), [], []⟩
def d_is_item_gates : He.DefD := ⟨("is_item_gates", none), "is_item", "is_item", defArgs (top 32), defBody (top 32), defScope (top 32), [], []⟩
def d_Gate_init : He.DefD := ⟨("Gate", some "__init__"), "__init__", "Gate.__init__", defArgs (inClass (top 34) 0), defBody (inClass (top 34) 0), defScope (inClass (top 34) 0), [], []⟩
def d_gate_steps : He.DefD := ⟨("gate_steps", none), "gate_steps", "gate_steps", defArgs (top 36), defBody (top 36), defScope (top 36), [], []⟩
def d_led : He.DefD := ⟨("led", none), "led", "led", defArgs (top 38), defBody (top 38), defScope (top 38), [], []⟩
def d_added : He.DefD := ⟨("added", none), "added", "added", defArgs (top 39), defBody (top 39), defScope (top 39), [], []⟩
def d_lowered : He.DefD := ⟨("lowered", none), "lowered", "lowered", defArgs (top 40), defBody (top 40), defScope (top 40), [], []⟩
def d_Standings_init : He.DefD := ⟨("Standings", some "__init__"), "__init__", "Standings.__init__", defArgs (inClass (top 43) 0), defBody (inClass (top 43) 0), defScope (inClass (top 43) 0), [], []⟩
def d_standings : He.DefD := ⟨("standings", none), "standings", "standings", defArgs (top 44), defBody (top 44), defScope (top 44), [], []⟩
def d_is_table : He.DefD := ⟨("is_table", none), "is_table", "is_table", defArgs (top 47), defBody (top 47), defScope (top 47), [], []⟩
def d_are_costs : He.DefD := ⟨("are_costs", none), "are_costs", "are_costs", defArgs (top 48), defBody (top 48), defScope (top 48), [], []⟩
def d_Store_init : He.DefD := ⟨("Store", some "__init__"), "__init__", "Store.__init__", defArgs (inClass (top 49) 0), defBody (inClass (top 49) 0), defScope (inClass (top 49) 0), [], []⟩
def d_is_item_machines : He.DefD := ⟨("is_item_machines", none), "is_item", "is_item", defArgs (top 56), defBody (top 56), defScope (top 56), [], []⟩
def d_least_rows : He.DefD := ⟨("least_rows", none), "least_rows", "least_rows", defArgs (top 58), defBody (top 58), defScope (top 58), [], []⟩
def d_Machine_init : He.DefD := ⟨("Machine", some "__init__"), "__init__", "Machine.__init__", defArgs (inClass (top 59) 0), defBody (inClass (top 59) 0), defScope (inClass (top 59) 0), [], []⟩
def d_classes_of : He.DefD := ⟨("classes_of", none), "classes_of", "classes_of", defArgs (top 61), defBody (top 61), defScope (top 61), [], []⟩
def d_shrunk_steps : He.DefD := ⟨("shrunk_steps", none), "shrunk_steps", "shrunk_steps", defArgs (top 63), defBody (top 63), defScope (top 63), [], []⟩
def d_standing_steps : He.DefD := ⟨("standing_steps", none), "standing_steps", "standing_steps", defArgs (top 64), defBody (top 64), defScope (top 64), [], []⟩
def d_least_machine : He.DefD := ⟨("least_machine", none), "least_machine", "least_machine", defArgs (top 65), defBody (top 65), defScope (top 65), [], []⟩
def d_Web_init : He.DefD := ⟨("Web", some "__init__"), "__init__", "Web.__init__", defArgs (inClass (top 68) 0), defBody (inClass (top 68) 0), defScope (inClass (top 68) 0), [], []⟩
def d_spot_moves : He.DefD := ⟨("spot_moves", none), "spot_moves", "spot_moves", defArgs (top 69), defBody (top 69), defScope (top 69), [], []⟩
def d_spot_web : He.DefD := ⟨("spot_web", none), "spot_web", "spot_web", defArgs (top 70), defBody (top 70), defScope (top 70), [.int 1000], []⟩
def d_check_tellers : He.DefD := ⟨("check_tellers", none), "check_tellers", "check_tellers", defArgs (top 72), defBody (top 72), defScope (top 72), [], []⟩
def d_checked_counts : He.DefD := ⟨("checked_counts", none), "checked_counts", "checked_counts", defArgs (top 73), defBody (top 73), defScope (top 73), [], []⟩
def d_taken : He.DefD := ⟨("taken", none), "taken", "taken", defArgs (top 74), defBody (top 74), defScope (top 74), [], []⟩
def d_spot_behind : He.DefD := ⟨("spot_behind", none), "spot_behind", "spot_behind", defArgs (top 75), defBody (top 75), defScope (top 75), [], []⟩
def d_judge_ring : He.DefD := ⟨("judge_ring", none), "judge_ring", "judge_ring", defArgs (top 76), defBody (top 76), defScope (top 76), [], [("counts", .non), ("gate", .non)]⟩
def d_law_cell : He.DefD := ⟨("_law_cell", none), "_law_cell", "_law_cell", defArgs (top 78), defBody (top 78), defScope (top 78), [], []⟩
def d_law_source : He.DefD := ⟨("_law_source", none), "_law_source", "_law_source", defArgs (top 79), defBody (top 79), defScope (top 79), [], []⟩
def d_law_draw : He.DefD := ⟨("_law_draw", none), "_law_draw", "_law_draw", defArgs (top 80), defBody (top 80), defScope (top 80), [], []⟩
def d_law_asks : He.DefD := ⟨("_law_asks", none), "_law_asks", "_law_asks", defArgs (top 81), defBody (top 81), defScope (top 81), [], []⟩
def d_law_prices : He.DefD := ⟨("_law_prices", none), "_law_prices", "_law_prices", defArgs (top 82), defBody (top 82), defScope (top 82), [], []⟩
def d_law_any_table : He.DefD := ⟨("_law_any_table", none), "_law_any_table", "_law_any_table", defArgs (top 83), defBody (top 83), defScope (top 83), [], []⟩
def d_law_change : He.DefD := ⟨("_law_change", none), "_law_change", "_law_change", defArgs (top 84), defBody (top 84), defScope (top 84), [], []⟩
def d_law_changes : He.DefD := ⟨("_law_changes", none), "_law_changes", "_law_changes", defArgs (top 85), defBody (top 85), defScope (top 85), [], []⟩
def d_law_served : He.DefD := ⟨("_law_served", none), "_law_served", "_law_served", defArgs (top 86), defBody (top 86), defScope (top 86), [], []⟩
def d_law_world : He.DefD := ⟨("_law_world", none), "_law_world", "_law_world", defArgs (top 87), defBody (top 87), defScope (top 87), [], []⟩
def d_law_lists : He.DefD := ⟨("_law_lists", none), "_law_lists", "_law_lists", defArgs (top 88), defBody (top 88), defScope (top 88), [], []⟩
def d_law_led : He.DefD := ⟨("_law_led", none), "_law_led", "_law_led", defArgs (top 89), defBody (top 89), defScope (top 89), [], []⟩
def d_law_low : He.DefD := ⟨("_law_low", none), "_law_low", "_law_low", defArgs (top 90), defBody (top 90), defScope (top 90), [], []⟩
def d_law_lots : He.DefD := ⟨("_law_lots", none), "_law_lots", "_law_lots", defArgs (top 91), defBody (top 91), defScope (top 91), [], []⟩
def d_law_classes : He.DefD := ⟨("_law_classes", none), "_law_classes", "_law_classes", defArgs (top 92), defBody (top 92), defScope (top 92), [], []⟩
def d_law_shrunk : He.DefD := ⟨("_law_shrunk", none), "_law_shrunk", "_law_shrunk", defArgs (top 93), defBody (top 93), defScope (top 93), [], []⟩
def d_law_machine : He.DefD := ⟨("_law_machine", none), "_law_machine", "_law_machine", defArgs (top 94), defBody (top 94), defScope (top 94), [], []⟩
def d_law_row : He.DefD := ⟨("_law_row", none), "_law_row", "_law_row", defArgs (top 95), defBody (top 95), defScope (top 95), [], []⟩
def d_law_gate : He.DefD := ⟨("_law_gate", none), "_law_gate", "_law_gate", defArgs (top 96), defBody (top 96), defScope (top 96), [], []⟩
def d_law_spots : He.DefD := ⟨("_law_spots", none), "_law_spots", "_law_spots", defArgs (top 97), defBody (top 97), defScope (top 97), [], []⟩
def d_law_gains : He.DefD := ⟨("_law_gains", none), "_law_gains", "_law_gains", defArgs (top 98), defBody (top 98), defScope (top 98), [], []⟩
def d_law_led_to : He.DefD := ⟨("_law_led_to", none), "_law_led_to", "_law_led_to", defArgs (top 99), defBody (top 99), defScope (top 99), [], []⟩
def d_law_refused : He.DefD := ⟨("_law_refused", none), "_law_refused", "_law_refused", defArgs (top 100), defBody (top 100), defScope (top 100), [], []⟩
def d_law_orders : He.DefD := ⟨("_law_orders", none), "_law_orders", "_law_orders", defArgs (top 101), defBody (top 101), defScope (top 101), [], []⟩
def d_law : He.DefD := ⟨("law", none), "law", "law", defArgs (top 102), defBody (top 102), defScope (top 102), [], []⟩
def fn : List He.DefD := [d_WrongThing_init, d_Unlike_init, d_is_integer, d_is_count, d_is_listed, d_deep, d_is_asks, d_check_asks, d_row_over, d_integers, d_is_item_gates, d_Gate_init, d_gate_steps, d_led, d_added, d_lowered, d_Standings_init, d_standings, d_is_table, d_are_costs] ++ [d_Store_init, d_is_item_machines, d_least_rows, d_Machine_init, d_classes_of, d_shrunk_steps, d_standing_steps, d_least_machine, d_Web_init, d_spot_moves, d_spot_web, d_check_tellers, d_checked_counts, d_taken, d_spot_behind, d_judge_ring, d_law_cell, d_law_source, d_law_draw, d_law_asks] ++ [d_law_prices, d_law_any_table, d_law_change, d_law_changes, d_law_served, d_law_world, d_law_lists, d_law_led, d_law_low, d_law_lots, d_law_classes, d_law_shrunk, d_law_machine, d_law_row, d_law_gate, d_law_spots, d_law_gains, d_law_led_to, d_law_refused, d_law_orders] ++ [d_law]
def fa : List He.Fa := ([.glo "is_integer", .glo "is_count", .glo "is_listed", .glo "deep", .glo "is_asks", .glo "check_asks", .glo "row_over", .glo "integers", .glo "is_item_gates", .glo "gate_steps", .glo "led", .glo "added", .glo "lowered", .glo "standings", .glo "is_table", .glo "are_costs", .glo "is_item_machines", .glo "least_rows", .glo "classes_of", .glo "shrunk_steps", .glo "standing_steps", .glo "least_machine", .glo "spot_moves", .glo "spot_web", .glo "check_tellers"] : List He.Fa) ++ ([.glo "checked_counts", .glo "taken", .glo "spot_behind", .glo "judge_ring", .glo "_law_cell", .glo "_law_source", .glo "_law_draw", .glo "_law_asks", .glo "_law_prices", .glo "_law_any_table", .glo "_law_change", .glo "_law_changes", .glo "_law_served", .glo "_law_world", .glo "_law_lists", .glo "_law_led", .glo "_law_low", .glo "_law_lots", .glo "_law_classes", .glo "_law_shrunk", .glo "_law_machine", .glo "_law_row", .glo "_law_gate", .glo "_law_spots", .glo "_law_gains"] : List He.Fa) ++ ([.glo "_law_led_to", .glo "_law_refused", .glo "_law_orders", .glo "law", .free "len", .free "min", .free "max", .free "sum", .free "int", .free "abs", .free "tuple", .free "list", .free "range", .free "enumerate", .free "zip", .free "isinstance", .free "repr", .free "str", .free "bool", .glo "Gate", .cls "Gate", .mkr "Gate", .noat "Gate" "asks", .noat "Gate" "steps", .glo "Standings"] : List He.Fa) ++ ([.cls "Standings", .mkr "Standings", .noat "Standings" "lots", .noat "Standings" "rows", .noat "Standings" "steps", .glo "Store", .cls "Store", .mkr "Store", .noat "Store" "asks", .noat "Store" "begins", .noat "Store" "costs", .noat "Store" "ends", .glo "Machine", .cls "Machine", .mkr "Machine", .noat "Machine" "asks", .noat "Machine" "first", .noat "Machine" "steps", .noat "Machine" "rows", .glo "Web", .cls "Web", .mkr "Web", .noat "Web" "nodes", .noat "Web" "rows", .noat "Web" "moves"] : List He.Fa) ++ ([.str "LETTERS" "abcdefgh", .int "LONGEST" 2000, .int "MOST_PLACES" 50, .int "MOST_STANDINGS" 1000, .int "MOST_STATES" 1000, .int "MOST_KINDS" 1000, .glo "AfterError", .glo "BadFactors", .glo "BadCounts", .glo "Unlike", .glo "TooMany", .glo "BadAsks"] : List He.Fa)
/-- what the top left -/
structure Tx (K : PySem.W.Frag) (mg : Str → Option Value) : Prop where
  c : He.SaysD fa fn K
  x : ∃ h : Heap, K.In h ∧ h.Ns mainGlobals mg
variable {K : PySem.W.Frag} {mg : Str → Option Value}
theorem Tx.g_is_integer (T : Tx K mg) : mg "is_integer" = some (.ref (He.ga K "is_integer")) := let ⟨_, a, b⟩ := T.x; He.glo_ok a b (T.c.fact 0 (f := .glo "is_integer") rfl)
theorem Tx.g_is_count (T : Tx K mg) : mg "is_count" = some (.ref (He.ga K "is_count")) := let ⟨_, a, b⟩ := T.x; He.glo_ok a b (T.c.fact 1 (f := .glo "is_count") rfl)
theorem Tx.g_is_listed (T : Tx K mg) : mg "is_listed" = some (.ref (He.ga K "is_listed")) := let ⟨_, a, b⟩ := T.x; He.glo_ok a b (T.c.fact 2 (f := .glo "is_listed") rfl)
theorem Tx.g_deep (T : Tx K mg) : mg "deep" = some (.ref (He.ga K "deep")) := let ⟨_, a, b⟩ := T.x; He.glo_ok a b (T.c.fact 3 (f := .glo "deep") rfl)
theorem Tx.g_is_asks (T : Tx K mg) : mg "is_asks" = some (.ref (He.ga K "is_asks")) := let ⟨_, a, b⟩ := T.x; He.glo_ok a b (T.c.fact 4 (f := .glo "is_asks") rfl)
theorem Tx.g_check_asks (T : Tx K mg) : mg "check_asks" = some (.ref (He.ga K "check_asks")) := let ⟨_, a, b⟩ := T.x; He.glo_ok a b (T.c.fact 5 (f := .glo "check_asks") rfl)
theorem Tx.g_row_over (T : Tx K mg) : mg "row_over" = some (.ref (He.ga K "row_over")) := let ⟨_, a, b⟩ := T.x; He.glo_ok a b (T.c.fact 6 (f := .glo "row_over") rfl)
theorem Tx.g_integers (T : Tx K mg) : mg "integers" = some (.ref (He.ga K "integers")) := let ⟨_, a, b⟩ := T.x; He.glo_ok a b (T.c.fact 7 (f := .glo "integers") rfl)
theorem Tx.g_is_item_gates (T : Tx K mg) : mg "is_item_gates" = some (.ref (He.ga K "is_item_gates")) := let ⟨_, a, b⟩ := T.x; He.glo_ok a b (T.c.fact 8 (f := .glo "is_item_gates") rfl)
theorem Tx.g_gate_steps (T : Tx K mg) : mg "gate_steps" = some (.ref (He.ga K "gate_steps")) := let ⟨_, a, b⟩ := T.x; He.glo_ok a b (T.c.fact 9 (f := .glo "gate_steps") rfl)
theorem Tx.g_led (T : Tx K mg) : mg "led" = some (.ref (He.ga K "led")) := let ⟨_, a, b⟩ := T.x; He.glo_ok a b (T.c.fact 10 (f := .glo "led") rfl)
theorem Tx.g_added (T : Tx K mg) : mg "added" = some (.ref (He.ga K "added")) := let ⟨_, a, b⟩ := T.x; He.glo_ok a b (T.c.fact 11 (f := .glo "added") rfl)
theorem Tx.g_lowered (T : Tx K mg) : mg "lowered" = some (.ref (He.ga K "lowered")) := let ⟨_, a, b⟩ := T.x; He.glo_ok a b (T.c.fact 12 (f := .glo "lowered") rfl)
theorem Tx.g_standings (T : Tx K mg) : mg "standings" = some (.ref (He.ga K "standings")) := let ⟨_, a, b⟩ := T.x; He.glo_ok a b (T.c.fact 13 (f := .glo "standings") rfl)
theorem Tx.g_is_table (T : Tx K mg) : mg "is_table" = some (.ref (He.ga K "is_table")) := let ⟨_, a, b⟩ := T.x; He.glo_ok a b (T.c.fact 14 (f := .glo "is_table") rfl)
theorem Tx.g_are_costs (T : Tx K mg) : mg "are_costs" = some (.ref (He.ga K "are_costs")) := let ⟨_, a, b⟩ := T.x; He.glo_ok a b (T.c.fact 15 (f := .glo "are_costs") rfl)
theorem Tx.g_is_item_machines (T : Tx K mg) : mg "is_item_machines" = some (.ref (He.ga K "is_item_machines")) := let ⟨_, a, b⟩ := T.x; He.glo_ok a b (T.c.fact 16 (f := .glo "is_item_machines") rfl)
theorem Tx.g_least_rows (T : Tx K mg) : mg "least_rows" = some (.ref (He.ga K "least_rows")) := let ⟨_, a, b⟩ := T.x; He.glo_ok a b (T.c.fact 17 (f := .glo "least_rows") rfl)
theorem Tx.g_classes_of (T : Tx K mg) : mg "classes_of" = some (.ref (He.ga K "classes_of")) := let ⟨_, a, b⟩ := T.x; He.glo_ok a b (T.c.fact 18 (f := .glo "classes_of") rfl)
theorem Tx.g_shrunk_steps (T : Tx K mg) : mg "shrunk_steps" = some (.ref (He.ga K "shrunk_steps")) := let ⟨_, a, b⟩ := T.x; He.glo_ok a b (T.c.fact 19 (f := .glo "shrunk_steps") rfl)
theorem Tx.g_standing_steps (T : Tx K mg) : mg "standing_steps" = some (.ref (He.ga K "standing_steps")) := let ⟨_, a, b⟩ := T.x; He.glo_ok a b (T.c.fact 20 (f := .glo "standing_steps") rfl)
theorem Tx.g_least_machine (T : Tx K mg) : mg "least_machine" = some (.ref (He.ga K "least_machine")) := let ⟨_, a, b⟩ := T.x; He.glo_ok a b (T.c.fact 21 (f := .glo "least_machine") rfl)
theorem Tx.g_spot_moves (T : Tx K mg) : mg "spot_moves" = some (.ref (He.ga K "spot_moves")) := let ⟨_, a, b⟩ := T.x; He.glo_ok a b (T.c.fact 22 (f := .glo "spot_moves") rfl)
theorem Tx.g_spot_web (T : Tx K mg) : mg "spot_web" = some (.ref (He.ga K "spot_web")) := let ⟨_, a, b⟩ := T.x; He.glo_ok a b (T.c.fact 23 (f := .glo "spot_web") rfl)
theorem Tx.g_check_tellers (T : Tx K mg) : mg "check_tellers" = some (.ref (He.ga K "check_tellers")) := let ⟨_, a, b⟩ := T.x; He.glo_ok a b (T.c.fact 24 (f := .glo "check_tellers") rfl)
theorem Tx.g_checked_counts (T : Tx K mg) : mg "checked_counts" = some (.ref (He.ga K "checked_counts")) := let ⟨_, a, b⟩ := T.x; He.glo_ok a b (T.c.fact 25 (f := .glo "checked_counts") rfl)
theorem Tx.g_taken (T : Tx K mg) : mg "taken" = some (.ref (He.ga K "taken")) := let ⟨_, a, b⟩ := T.x; He.glo_ok a b (T.c.fact 26 (f := .glo "taken") rfl)
theorem Tx.g_spot_behind (T : Tx K mg) : mg "spot_behind" = some (.ref (He.ga K "spot_behind")) := let ⟨_, a, b⟩ := T.x; He.glo_ok a b (T.c.fact 27 (f := .glo "spot_behind") rfl)
theorem Tx.g_judge_ring (T : Tx K mg) : mg "judge_ring" = some (.ref (He.ga K "judge_ring")) := let ⟨_, a, b⟩ := T.x; He.glo_ok a b (T.c.fact 28 (f := .glo "judge_ring") rfl)
theorem Tx.g_law_cell (T : Tx K mg) : mg "_law_cell" = some (.ref (He.ga K "_law_cell")) := let ⟨_, a, b⟩ := T.x; He.glo_ok a b (T.c.fact 29 (f := .glo "_law_cell") rfl)
theorem Tx.g_law_source (T : Tx K mg) : mg "_law_source" = some (.ref (He.ga K "_law_source")) := let ⟨_, a, b⟩ := T.x; He.glo_ok a b (T.c.fact 30 (f := .glo "_law_source") rfl)
theorem Tx.g_law_draw (T : Tx K mg) : mg "_law_draw" = some (.ref (He.ga K "_law_draw")) := let ⟨_, a, b⟩ := T.x; He.glo_ok a b (T.c.fact 31 (f := .glo "_law_draw") rfl)
theorem Tx.g_law_asks (T : Tx K mg) : mg "_law_asks" = some (.ref (He.ga K "_law_asks")) := let ⟨_, a, b⟩ := T.x; He.glo_ok a b (T.c.fact 32 (f := .glo "_law_asks") rfl)
theorem Tx.g_law_prices (T : Tx K mg) : mg "_law_prices" = some (.ref (He.ga K "_law_prices")) := let ⟨_, a, b⟩ := T.x; He.glo_ok a b (T.c.fact 33 (f := .glo "_law_prices") rfl)
theorem Tx.g_law_any_table (T : Tx K mg) : mg "_law_any_table" = some (.ref (He.ga K "_law_any_table")) := let ⟨_, a, b⟩ := T.x; He.glo_ok a b (T.c.fact 34 (f := .glo "_law_any_table") rfl)
theorem Tx.g_law_change (T : Tx K mg) : mg "_law_change" = some (.ref (He.ga K "_law_change")) := let ⟨_, a, b⟩ := T.x; He.glo_ok a b (T.c.fact 35 (f := .glo "_law_change") rfl)
theorem Tx.g_law_changes (T : Tx K mg) : mg "_law_changes" = some (.ref (He.ga K "_law_changes")) := let ⟨_, a, b⟩ := T.x; He.glo_ok a b (T.c.fact 36 (f := .glo "_law_changes") rfl)
theorem Tx.g_law_served (T : Tx K mg) : mg "_law_served" = some (.ref (He.ga K "_law_served")) := let ⟨_, a, b⟩ := T.x; He.glo_ok a b (T.c.fact 37 (f := .glo "_law_served") rfl)
theorem Tx.g_law_world (T : Tx K mg) : mg "_law_world" = some (.ref (He.ga K "_law_world")) := let ⟨_, a, b⟩ := T.x; He.glo_ok a b (T.c.fact 38 (f := .glo "_law_world") rfl)
theorem Tx.g_law_lists (T : Tx K mg) : mg "_law_lists" = some (.ref (He.ga K "_law_lists")) := let ⟨_, a, b⟩ := T.x; He.glo_ok a b (T.c.fact 39 (f := .glo "_law_lists") rfl)
theorem Tx.g_law_led (T : Tx K mg) : mg "_law_led" = some (.ref (He.ga K "_law_led")) := let ⟨_, a, b⟩ := T.x; He.glo_ok a b (T.c.fact 40 (f := .glo "_law_led") rfl)
theorem Tx.g_law_low (T : Tx K mg) : mg "_law_low" = some (.ref (He.ga K "_law_low")) := let ⟨_, a, b⟩ := T.x; He.glo_ok a b (T.c.fact 41 (f := .glo "_law_low") rfl)
theorem Tx.g_law_lots (T : Tx K mg) : mg "_law_lots" = some (.ref (He.ga K "_law_lots")) := let ⟨_, a, b⟩ := T.x; He.glo_ok a b (T.c.fact 42 (f := .glo "_law_lots") rfl)
theorem Tx.g_law_classes (T : Tx K mg) : mg "_law_classes" = some (.ref (He.ga K "_law_classes")) := let ⟨_, a, b⟩ := T.x; He.glo_ok a b (T.c.fact 43 (f := .glo "_law_classes") rfl)
theorem Tx.g_law_shrunk (T : Tx K mg) : mg "_law_shrunk" = some (.ref (He.ga K "_law_shrunk")) := let ⟨_, a, b⟩ := T.x; He.glo_ok a b (T.c.fact 44 (f := .glo "_law_shrunk") rfl)
theorem Tx.g_law_machine (T : Tx K mg) : mg "_law_machine" = some (.ref (He.ga K "_law_machine")) := let ⟨_, a, b⟩ := T.x; He.glo_ok a b (T.c.fact 45 (f := .glo "_law_machine") rfl)
theorem Tx.g_law_row (T : Tx K mg) : mg "_law_row" = some (.ref (He.ga K "_law_row")) := let ⟨_, a, b⟩ := T.x; He.glo_ok a b (T.c.fact 46 (f := .glo "_law_row") rfl)
theorem Tx.g_law_gate (T : Tx K mg) : mg "_law_gate" = some (.ref (He.ga K "_law_gate")) := let ⟨_, a, b⟩ := T.x; He.glo_ok a b (T.c.fact 47 (f := .glo "_law_gate") rfl)
theorem Tx.g_law_spots (T : Tx K mg) : mg "_law_spots" = some (.ref (He.ga K "_law_spots")) := let ⟨_, a, b⟩ := T.x; He.glo_ok a b (T.c.fact 48 (f := .glo "_law_spots") rfl)
theorem Tx.g_law_gains (T : Tx K mg) : mg "_law_gains" = some (.ref (He.ga K "_law_gains")) := let ⟨_, a, b⟩ := T.x; He.glo_ok a b (T.c.fact 49 (f := .glo "_law_gains") rfl)
theorem Tx.g_law_led_to (T : Tx K mg) : mg "_law_led_to" = some (.ref (He.ga K "_law_led_to")) := let ⟨_, a, b⟩ := T.x; He.glo_ok a b (T.c.fact 50 (f := .glo "_law_led_to") rfl)
theorem Tx.g_law_refused (T : Tx K mg) : mg "_law_refused" = some (.ref (He.ga K "_law_refused")) := let ⟨_, a, b⟩ := T.x; He.glo_ok a b (T.c.fact 51 (f := .glo "_law_refused") rfl)
theorem Tx.g_law_orders (T : Tx K mg) : mg "_law_orders" = some (.ref (He.ga K "_law_orders")) := let ⟨_, a, b⟩ := T.x; He.glo_ok a b (T.c.fact 52 (f := .glo "_law_orders") rfl)
theorem Tx.g_law (T : Tx K mg) : mg "law" = some (.ref (He.ga K "law")) := let ⟨_, a, b⟩ := T.x; He.glo_ok a b (T.c.fact 53 (f := .glo "law") rfl)
theorem Tx.b_len (T : Tx K mg) : mg "len" = none := let ⟨_, a, b⟩ := T.x; He.free_ok a b (T.c.fact 54 (f := .free "len") rfl)
theorem Tx.b_min (T : Tx K mg) : mg "min" = none := let ⟨_, a, b⟩ := T.x; He.free_ok a b (T.c.fact 55 (f := .free "min") rfl)
theorem Tx.b_max (T : Tx K mg) : mg "max" = none := let ⟨_, a, b⟩ := T.x; He.free_ok a b (T.c.fact 56 (f := .free "max") rfl)
theorem Tx.b_sum (T : Tx K mg) : mg "sum" = none := let ⟨_, a, b⟩ := T.x; He.free_ok a b (T.c.fact 57 (f := .free "sum") rfl)
theorem Tx.b_int (T : Tx K mg) : mg "int" = none := let ⟨_, a, b⟩ := T.x; He.free_ok a b (T.c.fact 58 (f := .free "int") rfl)
theorem Tx.b_abs (T : Tx K mg) : mg "abs" = none := let ⟨_, a, b⟩ := T.x; He.free_ok a b (T.c.fact 59 (f := .free "abs") rfl)
theorem Tx.b_tuple (T : Tx K mg) : mg "tuple" = none := let ⟨_, a, b⟩ := T.x; He.free_ok a b (T.c.fact 60 (f := .free "tuple") rfl)
theorem Tx.b_list (T : Tx K mg) : mg "list" = none := let ⟨_, a, b⟩ := T.x; He.free_ok a b (T.c.fact 61 (f := .free "list") rfl)
theorem Tx.b_range (T : Tx K mg) : mg "range" = none := let ⟨_, a, b⟩ := T.x; He.free_ok a b (T.c.fact 62 (f := .free "range") rfl)
theorem Tx.b_enumerate (T : Tx K mg) : mg "enumerate" = none := let ⟨_, a, b⟩ := T.x; He.free_ok a b (T.c.fact 63 (f := .free "enumerate") rfl)
theorem Tx.b_zip (T : Tx K mg) : mg "zip" = none := let ⟨_, a, b⟩ := T.x; He.free_ok a b (T.c.fact 64 (f := .free "zip") rfl)
theorem Tx.b_isinstance (T : Tx K mg) : mg "isinstance" = none := let ⟨_, a, b⟩ := T.x; He.free_ok a b (T.c.fact 65 (f := .free "isinstance") rfl)
theorem Tx.b_repr (T : Tx K mg) : mg "repr" = none := let ⟨_, a, b⟩ := T.x; He.free_ok a b (T.c.fact 66 (f := .free "repr") rfl)
theorem Tx.b_str (T : Tx K mg) : mg "str" = none := let ⟨_, a, b⟩ := T.x; He.free_ok a b (T.c.fact 67 (f := .free "str") rfl)
theorem Tx.b_bool (T : Tx K mg) : mg "bool" = none := let ⟨_, a, b⟩ := T.x; He.free_ok a b (T.c.fact 68 (f := .free "bool") rfl)
theorem Tx.g_Gate (T : Tx K mg) : mg "Gate" = some (.ref (He.ga K "Gate")) := let ⟨_, a, b⟩ := T.x; He.glo_ok a b (T.c.fact 69 (f := .glo "Gate") rfl)
theorem Tx.c_Gate (T : Tx K mg) : Cls K (He.ga K "Gate") := He.cls_ok (T.c.fact 70 (f := .cls "Gate") rfl)
theorem Tx.m_Gate (T : Tx K mg) : Mk K (He.ga K "Gate") (He.ma K (He.ga K "Gate") "__init__") := He.mkr_ok (T.c.fact 71 (f := .mkr "Gate") rfl)
theorem Tx.n_Gate_asks (T : Tx K mg) : NoAttr K (He.ga K "Gate") "asks" := He.noat_ok (T.c.fact 72 (f := .noat "Gate" "asks") rfl)
theorem Tx.n_Gate_steps (T : Tx K mg) : NoAttr K (He.ga K "Gate") "steps" := He.noat_ok (T.c.fact 73 (f := .noat "Gate" "steps") rfl)
theorem Tx.g_Standings (T : Tx K mg) : mg "Standings" = some (.ref (He.ga K "Standings")) := let ⟨_, a, b⟩ := T.x; He.glo_ok a b (T.c.fact 74 (f := .glo "Standings") rfl)
theorem Tx.c_Standings (T : Tx K mg) : Cls K (He.ga K "Standings") := He.cls_ok (T.c.fact 75 (f := .cls "Standings") rfl)
theorem Tx.m_Standings (T : Tx K mg) : Mk K (He.ga K "Standings") (He.ma K (He.ga K "Standings") "__init__") := He.mkr_ok (T.c.fact 76 (f := .mkr "Standings") rfl)
theorem Tx.n_Standings_lots (T : Tx K mg) : NoAttr K (He.ga K "Standings") "lots" := He.noat_ok (T.c.fact 77 (f := .noat "Standings" "lots") rfl)
theorem Tx.n_Standings_rows (T : Tx K mg) : NoAttr K (He.ga K "Standings") "rows" := He.noat_ok (T.c.fact 78 (f := .noat "Standings" "rows") rfl)
theorem Tx.n_Standings_steps (T : Tx K mg) : NoAttr K (He.ga K "Standings") "steps" := He.noat_ok (T.c.fact 79 (f := .noat "Standings" "steps") rfl)
theorem Tx.g_Store (T : Tx K mg) : mg "Store" = some (.ref (He.ga K "Store")) := let ⟨_, a, b⟩ := T.x; He.glo_ok a b (T.c.fact 80 (f := .glo "Store") rfl)
theorem Tx.c_Store (T : Tx K mg) : Cls K (He.ga K "Store") := He.cls_ok (T.c.fact 81 (f := .cls "Store") rfl)
theorem Tx.m_Store (T : Tx K mg) : Mk K (He.ga K "Store") (He.ma K (He.ga K "Store") "__init__") := He.mkr_ok (T.c.fact 82 (f := .mkr "Store") rfl)
theorem Tx.n_Store_asks (T : Tx K mg) : NoAttr K (He.ga K "Store") "asks" := He.noat_ok (T.c.fact 83 (f := .noat "Store" "asks") rfl)
theorem Tx.n_Store_begins (T : Tx K mg) : NoAttr K (He.ga K "Store") "begins" := He.noat_ok (T.c.fact 84 (f := .noat "Store" "begins") rfl)
theorem Tx.n_Store_costs (T : Tx K mg) : NoAttr K (He.ga K "Store") "costs" := He.noat_ok (T.c.fact 85 (f := .noat "Store" "costs") rfl)
theorem Tx.n_Store_ends (T : Tx K mg) : NoAttr K (He.ga K "Store") "ends" := He.noat_ok (T.c.fact 86 (f := .noat "Store" "ends") rfl)
theorem Tx.g_Machine (T : Tx K mg) : mg "Machine" = some (.ref (He.ga K "Machine")) := let ⟨_, a, b⟩ := T.x; He.glo_ok a b (T.c.fact 87 (f := .glo "Machine") rfl)
theorem Tx.c_Machine (T : Tx K mg) : Cls K (He.ga K "Machine") := He.cls_ok (T.c.fact 88 (f := .cls "Machine") rfl)
theorem Tx.m_Machine (T : Tx K mg) : Mk K (He.ga K "Machine") (He.ma K (He.ga K "Machine") "__init__") := He.mkr_ok (T.c.fact 89 (f := .mkr "Machine") rfl)
theorem Tx.n_Machine_asks (T : Tx K mg) : NoAttr K (He.ga K "Machine") "asks" := He.noat_ok (T.c.fact 90 (f := .noat "Machine" "asks") rfl)
theorem Tx.n_Machine_first (T : Tx K mg) : NoAttr K (He.ga K "Machine") "first" := He.noat_ok (T.c.fact 91 (f := .noat "Machine" "first") rfl)
theorem Tx.n_Machine_steps (T : Tx K mg) : NoAttr K (He.ga K "Machine") "steps" := He.noat_ok (T.c.fact 92 (f := .noat "Machine" "steps") rfl)
theorem Tx.n_Machine_rows (T : Tx K mg) : NoAttr K (He.ga K "Machine") "rows" := He.noat_ok (T.c.fact 93 (f := .noat "Machine" "rows") rfl)
theorem Tx.g_Web (T : Tx K mg) : mg "Web" = some (.ref (He.ga K "Web")) := let ⟨_, a, b⟩ := T.x; He.glo_ok a b (T.c.fact 94 (f := .glo "Web") rfl)
theorem Tx.c_Web (T : Tx K mg) : Cls K (He.ga K "Web") := He.cls_ok (T.c.fact 95 (f := .cls "Web") rfl)
theorem Tx.m_Web (T : Tx K mg) : Mk K (He.ga K "Web") (He.ma K (He.ga K "Web") "__init__") := He.mkr_ok (T.c.fact 96 (f := .mkr "Web") rfl)
theorem Tx.n_Web_nodes (T : Tx K mg) : NoAttr K (He.ga K "Web") "nodes" := He.noat_ok (T.c.fact 97 (f := .noat "Web" "nodes") rfl)
theorem Tx.n_Web_rows (T : Tx K mg) : NoAttr K (He.ga K "Web") "rows" := He.noat_ok (T.c.fact 98 (f := .noat "Web" "rows") rfl)
theorem Tx.n_Web_moves (T : Tx K mg) : NoAttr K (He.ga K "Web") "moves" := He.noat_ok (T.c.fact 99 (f := .noat "Web" "moves") rfl)
theorem Tx.v_LETTERS (T : Tx K mg) : ∃ t, mg "LETTERS" = some (.str "abcdefgh" t) := let ⟨_, a, b⟩ := T.x; He.str_ok a b (T.c.fact 100 (f := .str "LETTERS" "abcdefgh") rfl)
theorem Tx.v_LONGEST (T : Tx K mg) : ∃ t, mg "LONGEST" = some (.int 2000 t) := let ⟨_, a, b⟩ := T.x; He.int_ok a b (T.c.fact 101 (f := .int "LONGEST" 2000) rfl)
theorem Tx.v_MOST_PLACES (T : Tx K mg) : ∃ t, mg "MOST_PLACES" = some (.int 50 t) := let ⟨_, a, b⟩ := T.x; He.int_ok a b (T.c.fact 102 (f := .int "MOST_PLACES" 50) rfl)
theorem Tx.v_MOST_STANDINGS (T : Tx K mg) : ∃ t, mg "MOST_STANDINGS" = some (.int 1000 t) := let ⟨_, a, b⟩ := T.x; He.int_ok a b (T.c.fact 103 (f := .int "MOST_STANDINGS" 1000) rfl)
theorem Tx.v_MOST_STATES (T : Tx K mg) : ∃ t, mg "MOST_STATES" = some (.int 1000 t) := let ⟨_, a, b⟩ := T.x; He.int_ok a b (T.c.fact 104 (f := .int "MOST_STATES" 1000) rfl)
theorem Tx.v_MOST_KINDS (T : Tx K mg) : ∃ t, mg "MOST_KINDS" = some (.int 1000 t) := let ⟨_, a, b⟩ := T.x; He.int_ok a b (T.c.fact 105 (f := .int "MOST_KINDS" 1000) rfl)
theorem Tx.g_AfterError (T : Tx K mg) : mg "AfterError" = some (.ref (He.ga K "AfterError")) := let ⟨_, a, b⟩ := T.x; He.glo_ok a b (T.c.fact 106 (f := .glo "AfterError") rfl)
theorem Tx.g_BadFactors (T : Tx K mg) : mg "BadFactors" = some (.ref (He.ga K "BadFactors")) := let ⟨_, a, b⟩ := T.x; He.glo_ok a b (T.c.fact 107 (f := .glo "BadFactors") rfl)
theorem Tx.g_BadCounts (T : Tx K mg) : mg "BadCounts" = some (.ref (He.ga K "BadCounts")) := let ⟨_, a, b⟩ := T.x; He.glo_ok a b (T.c.fact 108 (f := .glo "BadCounts") rfl)
theorem Tx.g_Unlike (T : Tx K mg) : mg "Unlike" = some (.ref (He.ga K "Unlike")) := let ⟨_, a, b⟩ := T.x; He.glo_ok a b (T.c.fact 109 (f := .glo "Unlike") rfl)
theorem Tx.g_TooMany (T : Tx K mg) : mg "TooMany" = some (.ref (He.ga K "TooMany")) := let ⟨_, a, b⟩ := T.x; He.glo_ok a b (T.c.fact 110 (f := .glo "TooMany") rfl)
theorem Tx.g_BadAsks (T : Tx K mg) : mg "BadAsks" = some (.ref (He.ga K "BadAsks")) := let ⟨_, a, b⟩ := T.x; He.glo_ok a b (T.c.fact 111 (f := .glo "BadAsks") rfl)
abbrev N_WrongThing_init : List Str := ["self", "thing"]
theorem sc_WrongThing_init : FnScope N_WrongThing_init ["self", "thing"] (defScope (inClass (top 3) 0)) := ⟨rfl, rfl, rfl, by decide +kernel, rfl, by decide +kernel, by decide +kernel⟩
theorem Tx.D_WrongThing_init (T : Tx K mg) : ∃ fd, FunD K "__init__" "WrongThing.__init__" (defArgs (inClass (top 3) 0)) (defBody (inClass (top 3) 0)) (defScope (inClass (top 3) 0)) [] [] (He.ma K (He.ga K "WrongThing") "__init__") fd ∧ Binds K fd ["self", "thing"] [] := let ⟨fd, h⟩ := T.c.def_ 0 (d := d_WrongThing_init) rfl; ⟨fd, h, FunD.bindsN h fun _ _ _ _ _ _ us hl => match us, hl with | [_, _], _ => rfl⟩
abbrev N_Unlike_init : List Str := ["self", "word"]
theorem sc_Unlike_init : FnScope N_Unlike_init ["self", "word"] (defScope (inClass (top 14) 0)) := ⟨rfl, rfl, rfl, by decide +kernel, rfl, by decide +kernel, by decide +kernel⟩
theorem Tx.D_Unlike_init (T : Tx K mg) : ∃ fd, FunD K "__init__" "Unlike.__init__" (defArgs (inClass (top 14) 0)) (defBody (inClass (top 14) 0)) (defScope (inClass (top 14) 0)) [] [] (He.ma K (He.ga K "Unlike") "__init__") fd ∧ Binds K fd ["self", "word"] [] := let ⟨fd, h⟩ := T.c.def_ 1 (d := d_Unlike_init) rfl; ⟨fd, h, FunD.bindsN h fun _ _ _ _ _ _ us hl => match us, hl with | [_, _], _ => rfl⟩
abbrev N_is_integer : List Str := ["thing"]
theorem sc_is_integer : FnScope N_is_integer ["thing"] (defScope (top 19)) := ⟨rfl, rfl, rfl, by decide +kernel, rfl, by decide +kernel, by decide +kernel⟩
theorem Tx.D_is_integer (T : Tx K mg) : ∃ fd, FunD K "is_integer" "is_integer" (defArgs (top 19)) (defBody (top 19)) (defScope (top 19)) [] [] (He.ga K "is_integer") fd ∧ Binds K fd ["thing"] [] := let ⟨fd, h⟩ := T.c.def_ 2 (d := d_is_integer) rfl; ⟨fd, h, FunD.bindsN h fun _ _ _ _ _ _ us hl => match us, hl with | [_], _ => rfl⟩
abbrev N_is_count : List Str := ["thing", "low", "high"]
theorem sc_is_count : FnScope N_is_count ["thing", "low", "high"] (defScope (top 20)) := ⟨rfl, rfl, rfl, by decide +kernel, rfl, by decide +kernel, by decide +kernel⟩
theorem Tx.D_is_count (T : Tx K mg) : ∃ fd, FunD K "is_count" "is_count" (defArgs (top 20)) (defBody (top 20)) (defScope (top 20)) [] [] (He.ga K "is_count") fd ∧ Binds K fd ["thing", "low", "high"] [] := let ⟨fd, h⟩ := T.c.def_ 3 (d := d_is_count) rfl; ⟨fd, h, FunD.bindsN h fun _ _ _ _ _ _ us hl => match us, hl with | [_, _, _], _ => rfl⟩
abbrev N_is_listed : List Str := ["thing"]
theorem sc_is_listed : FnScope N_is_listed ["thing"] (defScope (top 21)) := ⟨rfl, rfl, rfl, by decide +kernel, rfl, by decide +kernel, by decide +kernel⟩
theorem Tx.D_is_listed (T : Tx K mg) : ∃ fd, FunD K "is_listed" "is_listed" (defArgs (top 21)) (defBody (top 21)) (defScope (top 21)) [] [] (He.ga K "is_listed") fd ∧ Binds K fd ["thing"] [] := let ⟨fd, h⟩ := T.c.def_ 4 (d := d_is_listed) rfl; ⟨fd, h, FunD.bindsN h fun _ _ _ _ _ _ us hl => match us, hl with | [_], _ => rfl⟩
abbrev N_deep : List Str := ["thing", "part"]
theorem sc_deep : FnScope N_deep ["thing"] (defScope (top 22)) := ⟨rfl, rfl, rfl, by decide +kernel, rfl, by decide +kernel, by decide +kernel⟩
theorem Tx.D_deep (T : Tx K mg) : ∃ fd, FunD K "deep" "deep" (defArgs (top 22)) (defBody (top 22)) (defScope (top 22)) [] [] (He.ga K "deep") fd ∧ Binds K fd ["thing"] [] := let ⟨fd, h⟩ := T.c.def_ 5 (d := d_deep) rfl; ⟨fd, h, FunD.bindsN h fun _ _ _ _ _ _ us hl => match us, hl with | [_], _ => rfl⟩
abbrev N_is_asks : List Str := ["thing", "last", "letter", "place"]
theorem sc_is_asks : FnScope N_is_asks ["thing"] (defScope (top 23)) := ⟨rfl, rfl, rfl, by decide +kernel, rfl, by decide +kernel, by decide +kernel⟩
theorem Tx.D_is_asks (T : Tx K mg) : ∃ fd, FunD K "is_asks" "is_asks" (defArgs (top 23)) (defBody (top 23)) (defScope (top 23)) [] [] (He.ga K "is_asks") fd ∧ Binds K fd ["thing"] [] := let ⟨fd, h⟩ := T.c.def_ 6 (d := d_is_asks) rfl; ⟨fd, h, FunD.bindsN h fun _ _ _ _ _ _ us hl => match us, hl with | [_], _ => rfl⟩
abbrev N_check_asks : List Str := ["thing"]
theorem sc_check_asks : FnScope N_check_asks ["thing"] (defScope (top 24)) := ⟨rfl, rfl, rfl, by decide +kernel, rfl, by decide +kernel, by decide +kernel⟩
theorem Tx.D_check_asks (T : Tx K mg) : ∃ fd, FunD K "check_asks" "check_asks" (defArgs (top 24)) (defBody (top 24)) (defScope (top 24)) [] [] (He.ga K "check_asks") fd ∧ Binds K fd ["thing"] [] := let ⟨fd, h⟩ := T.c.def_ 7 (d := d_check_asks) rfl; ⟨fd, h, FunD.bindsN h fun _ _ _ _ _ _ us hl => match us, hl with | [_], _ => rfl⟩
abbrev N_row_over : List Str := ["asks", "thing", "letter"]
theorem sc_row_over : FnScope N_row_over ["asks", "thing"] (defScope (top 25)) := ⟨rfl, rfl, rfl, by decide +kernel, rfl, by decide +kernel, by decide +kernel⟩
theorem Tx.D_row_over (T : Tx K mg) : ∃ fd, FunD K "row_over" "row_over" (defArgs (top 25)) (defBody (top 25)) (defScope (top 25)) [] [] (He.ga K "row_over") fd ∧ Binds K fd ["asks", "thing"] [] := let ⟨fd, h⟩ := T.c.def_ 8 (d := d_row_over) rfl; ⟨fd, h, FunD.bindsN h fun _ _ _ _ _ _ us hl => match us, hl with | [_, _], _ => rfl⟩
abbrev N_integers : List Str := ["thing", "many", "part"]
theorem sc_integers : FnScope N_integers ["thing", "many"] (defScope (top 29)) := ⟨rfl, rfl, rfl, by decide +kernel, rfl, by decide +kernel, by decide +kernel⟩
theorem Tx.D_integers (T : Tx K mg) : ∃ fd, FunD K "integers" "integers" (defArgs (top 29)) (defBody (top 29)) (defScope (top 29)) [] [] (He.ga K "integers") fd ∧ Binds K fd ["thing", "many"] [] := let ⟨fd, h⟩ := T.c.def_ 9 (d := d_integers) rfl; ⟨fd, h, FunD.bindsN h fun _ _ _ _ _ _ us hl => match us, hl with | [_, _], _ => rfl⟩
abbrev N_is_item_gates : List Str := ["thing", "many", "asks", "place"]
theorem sc_is_item_gates : FnScope N_is_item_gates ["thing", "many", "asks"] (defScope (top 32)) := ⟨rfl, rfl, rfl, by decide +kernel, rfl, by decide +kernel, by decide +kernel⟩
theorem Tx.D_is_item_gates (T : Tx K mg) : ∃ fd, FunD K "is_item" "is_item" (defArgs (top 32)) (defBody (top 32)) (defScope (top 32)) [] [] (He.ga K "is_item_gates") fd ∧ Binds K fd ["thing", "many", "asks"] [] := let ⟨fd, h⟩ := T.c.def_ 10 (d := d_is_item_gates) rfl; ⟨fd, h, FunD.bindsN h fun _ _ _ _ _ _ us hl => match us, hl with | [_, _, _], _ => rfl⟩
abbrev N_Gate_init : List Str := ["self", "asks", "steps", "k", "item"]
theorem sc_Gate_init : FnScope N_Gate_init ["self", "asks", "steps"] (defScope (inClass (top 34) 0)) := ⟨rfl, rfl, rfl, by decide +kernel, rfl, by decide +kernel, by decide +kernel⟩
theorem Tx.D_Gate_init (T : Tx K mg) : ∃ fd, FunD K "__init__" "Gate.__init__" (defArgs (inClass (top 34) 0)) (defBody (inClass (top 34) 0)) (defScope (inClass (top 34) 0)) [] [] (He.ma K (He.ga K "Gate") "__init__") fd ∧ Binds K fd ["self", "asks", "steps"] [] := let ⟨fd, h⟩ := T.c.def_ 11 (d := d_Gate_init) rfl; ⟨fd, h, FunD.bindsN h fun _ _ _ _ _ _ us hl => match us, hl with | [_, _, _], _ => rfl⟩
abbrev N_gate_steps : List Str := ["asks", "gate"]
theorem sc_gate_steps : FnScope N_gate_steps ["asks", "gate"] (defScope (top 36)) := ⟨rfl, rfl, rfl, by decide +kernel, rfl, by decide +kernel, by decide +kernel⟩
theorem Tx.D_gate_steps (T : Tx K mg) : ∃ fd, FunD K "gate_steps" "gate_steps" (defArgs (top 36)) (defBody (top 36)) (defScope (top 36)) [] [] (He.ga K "gate_steps") fd ∧ Binds K fd ["asks", "gate"] [] := let ⟨fd, h⟩ := T.c.def_ 12 (d := d_gate_steps) rfl; ⟨fd, h, FunD.bindsN h fun _ _ _ _ _ _ us hl => match us, hl with | [_, _], _ => rfl⟩
abbrev N_led : List Str := ["work", "table", "many", "found", "t", "best", "s", "price"]
theorem sc_led : FnScope N_led ["work", "table"] (defScope (top 38)) := ⟨rfl, rfl, rfl, by decide +kernel, rfl, by decide +kernel, by decide +kernel⟩
theorem Tx.D_led (T : Tx K mg) : ∃ fd, FunD K "led" "led" (defArgs (top 38)) (defBody (top 38)) (defScope (top 38)) [] [] (He.ga K "led") fd ∧ Binds K fd ["work", "table"] [] := let ⟨fd, h⟩ := T.c.def_ 13 (d := d_led) rfl; ⟨fd, h, FunD.bindsN h fun _ _ _ _ _ _ us hl => match us, hl with | [_, _], _ => rfl⟩
abbrev N_added : List Str := ["one", "other", "x", "y"]
theorem sc_added : FnScope N_added ["one", "other"] (defScope (top 39)) := ⟨rfl, rfl, rfl, by decide +kernel, rfl, by decide +kernel, by decide +kernel⟩
theorem Tx.D_added (T : Tx K mg) : ∃ fd, FunD K "added" "added" (defArgs (top 39)) (defBody (top 39)) (defScope (top 39)) [] [] (He.ga K "added") fd ∧ Binds K fd ["one", "other"] [] := let ⟨fd, h⟩ := T.c.def_ 14 (d := d_added) rfl; ⟨fd, h, FunD.bindsN h fun _ _ _ _ _ _ us hl => match us, hl with | [_, _], _ => rfl⟩
abbrev N_lowered : List Str := ["work", "least", "number"]
theorem sc_lowered : FnScope N_lowered ["work"] (defScope (top 40)) := ⟨rfl, rfl, rfl, by decide +kernel, rfl, by decide +kernel, by decide +kernel⟩
theorem Tx.D_lowered (T : Tx K mg) : ∃ fd, FunD K "lowered" "lowered" (defArgs (top 40)) (defBody (top 40)) (defScope (top 40)) [] [] (He.ga K "lowered") fd ∧ Binds K fd ["work"] [] := let ⟨fd, h⟩ := T.c.def_ 15 (d := d_lowered) rfl; ⟨fd, h, FunD.bindsN h fun _ _ _ _ _ _ us hl => match us, hl with | [_], _ => rfl⟩
abbrev N_Standings_init : List Str := ["self", "lots", "rows", "steps"]
theorem sc_Standings_init : FnScope N_Standings_init ["self", "lots", "rows", "steps"] (defScope (inClass (top 43) 0)) := ⟨rfl, rfl, rfl, by decide +kernel, rfl, by decide +kernel, by decide +kernel⟩
theorem Tx.D_Standings_init (T : Tx K mg) : ∃ fd, FunD K "__init__" "Standings.__init__" (defArgs (inClass (top 43) 0)) (defBody (inClass (top 43) 0)) (defScope (inClass (top 43) 0)) [] [] (He.ma K (He.ga K "Standings") "__init__") fd ∧ Binds K fd ["self", "lots", "rows", "steps"] [] := let ⟨fd, h⟩ := T.c.def_ 16 (d := d_Standings_init) rfl; ⟨fd, h, FunD.bindsN h fun _ _ _ _ _ _ us hl => match us, hl with | [_, _, _, _], _ => rfl⟩
abbrev N_standings : List Str := ["store", "lots", "rows", "places", "steps", "lot", "row", "items", "k", "ask", "after", "least"]
theorem sc_standings : FnScope N_standings ["store"] (defScope (top 44)) := ⟨rfl, rfl, rfl, by decide +kernel, rfl, by decide +kernel, by decide +kernel⟩
theorem Tx.D_standings (T : Tx K mg) : ∃ fd, FunD K "standings" "standings" (defArgs (top 44)) (defBody (top 44)) (defScope (top 44)) [] [] (He.ga K "standings") fd ∧ Binds K fd ["store"] [] := let ⟨fd, h⟩ := T.c.def_ 17 (d := d_standings) rfl; ⟨fd, h, FunD.bindsN h fun _ _ _ _ _ _ us hl => match us, hl with | [_], _ => rfl⟩
abbrev N_is_table : List Str := ["thing", "many", "line"]
theorem sc_is_table : FnScope N_is_table ["thing", "many"] (defScope (top 47)) := ⟨rfl, rfl, rfl, by decide +kernel, rfl, by decide +kernel, by decide +kernel⟩
theorem Tx.D_is_table (T : Tx K mg) : ∃ fd, FunD K "is_table" "is_table" (defArgs (top 47)) (defBody (top 47)) (defScope (top 47)) [] [] (He.ga K "is_table") fd ∧ Binds K fd ["thing", "many"] [] := let ⟨fd, h⟩ := T.c.def_ 18 (d := d_is_table) rfl; ⟨fd, h, FunD.bindsN h fun _ _ _ _ _ _ us hl => match us, hl with | [_, _], _ => rfl⟩
abbrev N_are_costs : List Str := ["thing", "asks", "many", "table"]
theorem sc_are_costs : FnScope N_are_costs ["thing", "asks", "many"] (defScope (top 48)) := ⟨rfl, rfl, rfl, by decide +kernel, rfl, by decide +kernel, by decide +kernel⟩
theorem Tx.D_are_costs (T : Tx K mg) : ∃ fd, FunD K "are_costs" "are_costs" (defArgs (top 48)) (defBody (top 48)) (defScope (top 48)) [] [] (He.ga K "are_costs") fd ∧ Binds K fd ["thing", "asks", "many"] [] := let ⟨fd, h⟩ := T.c.def_ 19 (d := d_are_costs) rfl; ⟨fd, h, FunD.bindsN h fun _ _ _ _ _ _ us hl => match us, hl with | [_, _, _], _ => rfl⟩
abbrev N_Store_init : List Str := ["self", "asks", "begins", "costs", "ends"]
theorem sc_Store_init : FnScope N_Store_init ["self", "asks", "begins", "costs", "ends"] (defScope (inClass (top 49) 0)) := ⟨rfl, rfl, rfl, by decide +kernel, rfl, by decide +kernel, by decide +kernel⟩
theorem Tx.D_Store_init (T : Tx K mg) : ∃ fd, FunD K "__init__" "Store.__init__" (defArgs (inClass (top 49) 0)) (defBody (inClass (top 49) 0)) (defScope (inClass (top 49) 0)) [] [] (He.ma K (He.ga K "Store") "__init__") fd ∧ Binds K fd ["self", "asks", "begins", "costs", "ends"] [] := let ⟨fd, h⟩ := T.c.def_ 20 (d := d_Store_init) rfl; ⟨fd, h, FunD.bindsN h fun _ _ _ _ _ _ us hl => match us, hl with | [_, _, _, _, _], _ => rfl⟩
abbrev N_is_item_machines : List Str := ["thing", "many", "asks", "pair"]
theorem sc_is_item_machines : FnScope N_is_item_machines ["thing", "many", "asks"] (defScope (top 56)) := ⟨rfl, rfl, rfl, by decide +kernel, rfl, by decide +kernel, by decide +kernel⟩
theorem Tx.D_is_item_machines (T : Tx K mg) : ∃ fd, FunD K "is_item" "is_item" (defArgs (top 56)) (defBody (top 56)) (defScope (top 56)) [] [] (He.ga K "is_item_machines") fd ∧ Binds K fd ["thing", "many", "asks"] [] := let ⟨fd, h⟩ := T.c.def_ 21 (d := d_is_item_machines) rfl; ⟨fd, h, FunD.bindsN h fun _ _ _ _ _ _ us hl => match us, hl with | [_, _, _], _ => rfl⟩
abbrev N_least_rows : List Str := ["asks", "steps", "rows", "line", "place", "kind", "k", "ask", "after"]
theorem sc_least_rows : FnScope N_least_rows ["asks", "steps"] (defScope (top 58)) := ⟨rfl, rfl, rfl, by decide +kernel, rfl, by decide +kernel, by decide +kernel⟩
theorem Tx.D_least_rows (T : Tx K mg) : ∃ fd, FunD K "least_rows" "least_rows" (defArgs (top 58)) (defBody (top 58)) (defScope (top 58)) [] [] (He.ga K "least_rows") fd ∧ Binds K fd ["asks", "steps"] [] := let ⟨fd, h⟩ := T.c.def_ 22 (d := d_least_rows) rfl; ⟨fd, h, FunD.bindsN h fun _ _ _ _ _ _ us hl => match us, hl with | [_, _], _ => rfl⟩
abbrev N_Machine_init : List Str := ["self", "asks", "first", "steps", "k", "item"]
theorem sc_Machine_init : FnScope N_Machine_init ["self", "asks", "first", "steps"] (defScope (inClass (top 59) 0)) := ⟨rfl, rfl, rfl, by decide +kernel, rfl, by decide +kernel, by decide +kernel⟩
theorem Tx.D_Machine_init (T : Tx K mg) : ∃ fd, FunD K "__init__" "Machine.__init__" (defArgs (inClass (top 59) 0)) (defBody (inClass (top 59) 0)) (defScope (inClass (top 59) 0)) [] [] (He.ma K (He.ga K "Machine") "__init__") fd ∧ Binds K fd ["self", "asks", "first", "steps"] [] := let ⟨fd, h⟩ := T.c.def_ 23 (d := d_Machine_init) rfl; ⟨fd, h, FunD.bindsN h fun _ _ _ _ _ _ us hl => match us, hl with | [_, _, _, _], _ => rfl⟩
abbrev N_classes_of : List Str := ["steps", "classes", "many", "known", "found", "k", "item", "sign", "after", "add"]
theorem sc_classes_of : FnScope N_classes_of ["steps"] (defScope (top 61)) := ⟨rfl, rfl, rfl, by decide +kernel, rfl, by decide +kernel, by decide +kernel⟩
theorem Tx.D_classes_of (T : Tx K mg) : ∃ fd, FunD K "classes_of" "classes_of" (defArgs (top 61)) (defBody (top 61)) (defScope (top 61)) [] [] (He.ga K "classes_of") fd ∧ Binds K fd ["steps"] [] := let ⟨fd, h⟩ := T.c.def_ 24 (d := d_classes_of) rfl; ⟨fd, h, FunD.bindsN h fun _ _ _ _ _ _ us hl => match us, hl with | [_], _ => rfl⟩
abbrev N_shrunk_steps : List Str := ["steps", "classes", "line", "numbers", "items", "item", "after", "add"]
theorem sc_shrunk_steps : FnScope N_shrunk_steps ["steps"] (defScope (top 63)) := ⟨rfl, rfl, rfl, by decide +kernel, rfl, by decide +kernel, by decide +kernel⟩
theorem Tx.D_shrunk_steps (T : Tx K mg) : ∃ fd, FunD K "shrunk_steps" "shrunk_steps" (defArgs (top 63)) (defBody (top 63)) (defScope (top 63)) [] [] (He.ga K "shrunk_steps") fd ∧ Binds K fd ["steps"] [] := let ⟨fd, h⟩ := T.c.def_ 25 (d := d_shrunk_steps) rfl; ⟨fd, h, FunD.bindsN h fun _ _ _ _ _ _ us hl => match us, hl with | [_], _ => rfl⟩
abbrev N_standing_steps : List Str := ["store", "told", "closes", "items", "k", "item", "lot", "after", "add"]
theorem sc_standing_steps : FnScope N_standing_steps ["store"] (defScope (top 64)) := ⟨rfl, rfl, rfl, by decide +kernel, rfl, by decide +kernel, by decide +kernel⟩
theorem Tx.D_standing_steps (T : Tx K mg) : ∃ fd, FunD K "standing_steps" "standing_steps" (defArgs (top 64)) (defBody (top 64)) (defScope (top 64)) [] [] (He.ga K "standing_steps") fd ∧ Binds K fd ["store"] [] := let ⟨fd, h⟩ := T.c.def_ 26 (d := d_standing_steps) rfl; ⟨fd, h, FunD.bindsN h fun _ _ _ _ _ _ us hl => match us, hl with | [_], _ => rfl⟩
abbrev N_least_machine : List Str := ["teller", "first", "items"]
theorem sc_least_machine : FnScope N_least_machine ["teller"] (defScope (top 65)) := ⟨rfl, rfl, rfl, by decide +kernel, rfl, by decide +kernel, by decide +kernel⟩
theorem Tx.D_least_machine (T : Tx K mg) : ∃ fd, FunD K "least_machine" "least_machine" (defArgs (top 65)) (defBody (top 65)) (defScope (top 65)) [] [] (He.ga K "least_machine") fd ∧ Binds K fd ["teller"] [] := let ⟨fd, h⟩ := T.c.def_ 27 (d := d_least_machine) rfl; ⟨fd, h, FunD.bindsN h fun _ _ _ _ _ _ us hl => match us, hl with | [_], _ => rfl⟩
abbrev N_Web_init : List Str := ["self", "nodes", "rows", "moves"]
theorem sc_Web_init : FnScope N_Web_init ["self", "nodes", "rows", "moves"] (defScope (inClass (top 68) 0)) := ⟨rfl, rfl, rfl, by decide +kernel, rfl, by decide +kernel, by decide +kernel⟩
theorem Tx.D_Web_init (T : Tx K mg) : ∃ fd, FunD K "__init__" "Web.__init__" (defArgs (inClass (top 68) 0)) (defBody (inClass (top 68) 0)) (defScope (inClass (top 68) 0)) [] [] (He.ma K (He.ga K "Web") "__init__") fd ∧ Binds K fd ["self", "nodes", "rows", "moves"] [] := let ⟨fd, h⟩ := T.c.def_ 28 (d := d_Web_init) rfl; ⟨fd, h, FunD.bindsN h fun _ _ _ _ _ _ us hl => match us, hl with | [_, _, _, _], _ => rfl⟩
abbrev N_spot_moves : List Str := ["machines", "weights", "steps", "spot", "factors", "counts", "found", "k", "place", "gain", "after", "machine", "factor", "kind", "step"]
theorem sc_spot_moves : FnScope N_spot_moves ["machines", "weights", "steps", "spot"] (defScope (top 69)) := ⟨rfl, rfl, rfl, by decide +kernel, rfl, by decide +kernel, by decide +kernel⟩
theorem Tx.D_spot_moves (T : Tx K mg) : ∃ fd, FunD K "spot_moves" "spot_moves" (defArgs (top 69)) (defBody (top 69)) (defScope (top 69)) [] [] (He.ga K "spot_moves") fd ∧ Binds K fd ["machines", "weights", "steps", "spot"] [] := let ⟨fd, h⟩ := T.c.def_ 29 (d := d_spot_moves) rfl; ⟨fd, h, FunD.bindsN h fun _ _ _ _ _ _ us hl => match us, hl with | [_, _, _, _], _ => rfl⟩
abbrev N_spot_web : List Str := ["machines", "weights", "steps", "most", "asks", "nodes", "rows", "places", "moves", "row", "items", "k", "after", "gain"]
theorem sc_spot_web : FnScope N_spot_web ["machines", "weights", "steps", "most"] (defScope (top 70)) := ⟨rfl, rfl, rfl, by decide +kernel, rfl, by decide +kernel, by decide +kernel⟩
theorem Tx.D_spot_web (T : Tx K mg) : ∃ fd, FunD K "spot_web" "spot_web" (defArgs (top 70)) (defBody (top 70)) (defScope (top 70)) [.int 1000] [] (He.ga K "spot_web") fd := T.c.def_ 30 (d := d_spot_web) rfl
abbrev N_check_tellers : List Str := ["tellers", "factors", "teller"]
theorem sc_check_tellers : FnScope N_check_tellers ["tellers", "factors"] (defScope (top 72)) := ⟨rfl, rfl, rfl, by decide +kernel, rfl, by decide +kernel, by decide +kernel⟩
theorem Tx.D_check_tellers (T : Tx K mg) : ∃ fd, FunD K "check_tellers" "check_tellers" (defArgs (top 72)) (defBody (top 72)) (defScope (top 72)) [] [] (He.ga K "check_tellers") fd ∧ Binds K fd ["tellers", "factors"] [] := let ⟨fd, h⟩ := T.c.def_ 31 (d := d_check_tellers) rfl; ⟨fd, h, FunD.bindsN h fun _ _ _ _ _ _ us hl => match us, hl with | [_, _], _ => rfl⟩
abbrev N_checked_counts : List Str := ["asks", "counts"]
theorem sc_checked_counts : FnScope N_checked_counts ["asks", "counts"] (defScope (top 73)) := ⟨rfl, rfl, rfl, by decide +kernel, rfl, by decide +kernel, by decide +kernel⟩
theorem Tx.D_checked_counts (T : Tx K mg) : ∃ fd, FunD K "checked_counts" "checked_counts" (defArgs (top 73)) (defBody (top 73)) (defScope (top 73)) [] [] (He.ga K "checked_counts") fd ∧ Binds K fd ["asks", "counts"] [] := let ⟨fd, h⟩ := T.c.def_ 32 (d := d_checked_counts) rfl; ⟨fd, h, FunD.bindsN h fun _ _ _ _ _ _ us hl => match us, hl with | [_, _], _ => rfl⟩
abbrev N_taken : List Str := ["tellers", "factors", "counts", "gate", "asks", "weights", "machines", "teller"]
theorem sc_taken : FnScope N_taken ["tellers", "factors", "counts", "gate"] (defScope (top 74)) := ⟨rfl, rfl, rfl, by decide +kernel, rfl, by decide +kernel, by decide +kernel⟩
theorem Tx.D_taken (T : Tx K mg) : ∃ fd, FunD K "taken" "taken" (defArgs (top 74)) (defBody (top 74)) (defScope (top 74)) [] [] (He.ga K "taken") fd ∧ Binds K fd ["tellers", "factors", "counts", "gate"] [] := let ⟨fd, h⟩ := T.c.def_ 33 (d := d_taken) rfl; ⟨fd, h, FunD.bindsN h fun _ _ _ _ _ _ us hl => match us, hl with | [_, _, _, _], _ => rfl⟩
abbrev N_spot_behind : List Str := ["machines", "weights", "steps", "spot", "row", "asks", "total", "letter", "step", "number", "after", "gain"]
theorem sc_spot_behind : FnScope N_spot_behind ["machines", "weights", "steps", "spot", "row"] (defScope (top 75)) := ⟨rfl, rfl, rfl, by decide +kernel, rfl, by decide +kernel, by decide +kernel⟩
theorem Tx.D_spot_behind (T : Tx K mg) : ∃ fd, FunD K "spot_behind" "spot_behind" (defArgs (top 75)) (defBody (top 75)) (defScope (top 75)) [] [] (He.ga K "spot_behind") fd ∧ Binds K fd ["machines", "weights", "steps", "spot", "row"] [] := let ⟨fd, h⟩ := T.c.def_ 34 (d := d_spot_behind) rfl; ⟨fd, h, FunD.bindsN h fun _ _ _ _ _ _ us hl => match us, hl with | [_, _, _, _, _], _ => rfl⟩
abbrev N_judge_ring : List Str := ["tellers", "factors", "stem", "ring", "counts", "gate", "machines", "weights", "steps", "asks", "told", "back"]
theorem sc_judge_ring : FnScope N_judge_ring ["tellers", "factors", "stem", "ring", "counts", "gate"] (defScope (top 76)) := ⟨rfl, rfl, rfl, by decide +kernel, rfl, by decide +kernel, by decide +kernel⟩
theorem Tx.D_judge_ring (T : Tx K mg) : ∃ fd, FunD K "judge_ring" "judge_ring" (defArgs (top 76)) (defBody (top 76)) (defScope (top 76)) [] [("counts", .non), ("gate", .non)] (He.ga K "judge_ring") fd := T.c.def_ 35 (d := d_judge_ring) rfl
abbrev N_law_cell : List Str := ["_law_script", "_law_k"]
theorem sc_law_cell : FnScope N_law_cell ["_law_script", "_law_k"] (defScope (top 78)) := ⟨rfl, rfl, rfl, by decide +kernel, rfl, by decide +kernel, by decide +kernel⟩
theorem Tx.D_law_cell (T : Tx K mg) : ∃ fd, FunD K "_law_cell" "_law_cell" (defArgs (top 78)) (defBody (top 78)) (defScope (top 78)) [] [] (He.ga K "_law_cell") fd ∧ Binds K fd ["_law_script", "_law_k"] [] := let ⟨fd, h⟩ := T.c.def_ 36 (d := d_law_cell) rfl; ⟨fd, h, FunD.bindsN h fun _ _ _ _ _ _ us hl => match us, hl with | [_, _], _ => rfl⟩
abbrev N_law_source : List Str := ["_law_script", "_law_k", "_law_cell_here", "_law_number", "_law_mixed"]
theorem sc_law_source : FnScope N_law_source ["_law_script", "_law_k"] (defScope (top 79)) := ⟨rfl, rfl, rfl, by decide +kernel, rfl, by decide +kernel, by decide +kernel⟩
theorem Tx.D_law_source (T : Tx K mg) : ∃ fd, FunD K "_law_source" "_law_source" (defArgs (top 79)) (defBody (top 79)) (defScope (top 79)) [] [] (He.ga K "_law_source") fd ∧ Binds K fd ["_law_script", "_law_k"] [] := let ⟨fd, h⟩ := T.c.def_ 37 (d := d_law_source) rfl; ⟨fd, h, FunD.bindsN h fun _ _ _ _ _ _ us hl => match us, hl with | [_, _], _ => rfl⟩
abbrev N_law_draw : List Str := ["_law_source_here", "_law_many", "_law_digit", "_law_mixed"]
theorem sc_law_draw : FnScope N_law_draw ["_law_source_here", "_law_many"] (defScope (top 80)) := ⟨rfl, rfl, rfl, by decide +kernel, rfl, by decide +kernel, by decide +kernel⟩
theorem Tx.D_law_draw (T : Tx K mg) : ∃ fd, FunD K "_law_draw" "_law_draw" (defArgs (top 80)) (defBody (top 80)) (defScope (top 80)) [] [] (He.ga K "_law_draw") fd ∧ Binds K fd ["_law_source_here", "_law_many"] [] := let ⟨fd, h⟩ := T.c.def_ 38 (d := d_law_draw) rfl; ⟨fd, h, FunD.bindsN h fun _ _ _ _ _ _ us hl => match us, hl with | [_, _], _ => rfl⟩
abbrev N_law_asks : List Str := ["_law_source_here"]
theorem sc_law_asks : FnScope N_law_asks ["_law_source_here"] (defScope (top 81)) := ⟨rfl, rfl, rfl, by decide +kernel, rfl, by decide +kernel, by decide +kernel⟩
theorem Tx.D_law_asks (T : Tx K mg) : ∃ fd, FunD K "_law_asks" "_law_asks" (defArgs (top 81)) (defBody (top 81)) (defScope (top 81)) [] [] (He.ga K "_law_asks") fd ∧ Binds K fd ["_law_source_here"] [] := let ⟨fd, h⟩ := T.c.def_ 39 (d := d_law_asks) rfl; ⟨fd, h, FunD.bindsN h fun _ _ _ _ _ _ us hl => match us, hl with | [_], _ => rfl⟩
abbrev N_law_prices : List Str := ["_law_source_here", "_law_many", "_law_most", "_law_k"]
theorem sc_law_prices : FnScope N_law_prices ["_law_source_here", "_law_many", "_law_most"] (defScope (top 82)) := ⟨rfl, rfl, rfl, by decide +kernel, rfl, by decide +kernel, by decide +kernel⟩
theorem Tx.D_law_prices (T : Tx K mg) : ∃ fd, FunD K "_law_prices" "_law_prices" (defArgs (top 82)) (defBody (top 82)) (defScope (top 82)) [] [] (He.ga K "_law_prices") fd ∧ Binds K fd ["_law_source_here", "_law_many", "_law_most"] [] := let ⟨fd, h⟩ := T.c.def_ 40 (d := d_law_prices) rfl; ⟨fd, h, FunD.bindsN h fun _ _ _ _ _ _ us hl => match us, hl with | [_, _, _], _ => rfl⟩
abbrev N_law_any_table : List Str := ["_law_source_here", "_law_many", "_law_most", "_law_s"]
theorem sc_law_any_table : FnScope N_law_any_table ["_law_source_here", "_law_many", "_law_most"] (defScope (top 83)) := ⟨rfl, rfl, rfl, by decide +kernel, rfl, by decide +kernel, by decide +kernel⟩
theorem Tx.D_law_any_table (T : Tx K mg) : ∃ fd, FunD K "_law_any_table" "_law_any_table" (defArgs (top 83)) (defBody (top 83)) (defScope (top 83)) [] [] (He.ga K "_law_any_table") fd ∧ Binds K fd ["_law_source_here", "_law_many", "_law_most"] [] := let ⟨fd, h⟩ := T.c.def_ 41 (d := d_law_any_table) rfl; ⟨fd, h, FunD.bindsN h fun _ _ _ _ _ _ us hl => match us, hl with | [_, _, _], _ => rfl⟩
abbrev N_law_change : List Str := ["_law_source_here", "_law_s", "_law_t", "_law_most"]
theorem sc_law_change : FnScope N_law_change ["_law_source_here", "_law_s", "_law_t", "_law_most"] (defScope (top 84)) := ⟨rfl, rfl, rfl, by decide +kernel, rfl, by decide +kernel, by decide +kernel⟩
theorem Tx.D_law_change (T : Tx K mg) : ∃ fd, FunD K "_law_change" "_law_change" (defArgs (top 84)) (defBody (top 84)) (defScope (top 84)) [] [] (He.ga K "_law_change") fd ∧ Binds K fd ["_law_source_here", "_law_s", "_law_t", "_law_most"] [] := let ⟨fd, h⟩ := T.c.def_ 42 (d := d_law_change) rfl; ⟨fd, h, FunD.bindsN h fun _ _ _ _ _ _ us hl => match us, hl with | [_, _, _, _], _ => rfl⟩
abbrev N_law_changes : List Str := ["_law_source_here", "_law_many", "_law_most", "_law_found", "_law_s", "_law_t"]
theorem sc_law_changes : FnScope N_law_changes ["_law_source_here", "_law_many", "_law_most"] (defScope (top 85)) := ⟨rfl, rfl, rfl, by decide +kernel, rfl, by decide +kernel, by decide +kernel⟩
theorem Tx.D_law_changes (T : Tx K mg) : ∃ fd, FunD K "_law_changes" "_law_changes" (defArgs (top 85)) (defBody (top 85)) (defScope (top 85)) [] [] (He.ga K "_law_changes") fd ∧ Binds K fd ["_law_source_here", "_law_many", "_law_most"] [] := let ⟨fd, h⟩ := T.c.def_ 43 (d := d_law_changes) rfl; ⟨fd, h, FunD.bindsN h fun _ _ _ _ _ _ us hl => match us, hl with | [_, _, _], _ => rfl⟩
abbrev N_law_served : List Str := ["_law_changes_here", "_law_serves", "_law_line", "_law_price", "_law_serve"]
theorem sc_law_served : FnScope N_law_served ["_law_changes_here", "_law_serves"] (defScope (top 86)) := ⟨rfl, rfl, rfl, by decide +kernel, rfl, by decide +kernel, by decide +kernel⟩
theorem Tx.D_law_served (T : Tx K mg) : ∃ fd, FunD K "_law_served" "_law_served" (defArgs (top 86)) (defBody (top 86)) (defScope (top 86)) [] [] (He.ga K "_law_served") fd ∧ Binds K fd ["_law_changes_here", "_law_serves"] [] := let ⟨fd, h⟩ := T.c.def_ 44 (d := d_law_served) rfl; ⟨fd, h, FunD.bindsN h fun _ _ _ _ _ _ us hl => match us, hl with | [_, _], _ => rfl⟩
abbrev N_law_world : List Str := ["_law_source_here", "_law_many", "_law_asks_here", "_law_most", "_law_manner", "_law_begins", "_law_ends", "_law_changes_here", "_law_costs", "_law_k", "_law_serves", "_law_price"]
theorem sc_law_world : FnScope N_law_world ["_law_source_here", "_law_many", "_law_asks_here", "_law_most"] (defScope (top 87)) := ⟨rfl, rfl, rfl, by decide +kernel, rfl, by decide +kernel, by decide +kernel⟩
theorem Tx.D_law_world (T : Tx K mg) : ∃ fd, FunD K "_law_world" "_law_world" (defArgs (top 87)) (defBody (top 87)) (defScope (top 87)) [] [] (He.ga K "_law_world") fd ∧ Binds K fd ["_law_source_here", "_law_many", "_law_asks_here", "_law_most"] [] := let ⟨fd, h⟩ := T.c.def_ 45 (d := d_law_world) rfl; ⟨fd, h, FunD.bindsN h fun _ _ _ _ _ _ us hl => match us, hl with | [_, _, _, _], _ => rfl⟩
abbrev N_law_lists : List Str := ["_law_world_here", "_law_costs", "_law_table", "_law_line"]
theorem sc_law_lists : FnScope N_law_lists ["_law_world_here"] (defScope (top 88)) := ⟨rfl, rfl, rfl, by decide +kernel, rfl, by decide +kernel, by decide +kernel⟩
theorem Tx.D_law_lists (T : Tx K mg) : ∃ fd, FunD K "_law_lists" "_law_lists" (defArgs (top 88)) (defBody (top 88)) (defScope (top 88)) [] [] (He.ga K "_law_lists") fd ∧ Binds K fd ["_law_world_here"] [] := let ⟨fd, h⟩ := T.c.def_ 46 (d := d_law_lists) rfl; ⟨fd, h, FunD.bindsN h fun _ _ _ _ _ _ us hl => match us, hl with | [_], _ => rfl⟩
abbrev N_law_led : List Str := ["_law_line", "_law_table", "_law_many", "_law_t", "_law_s"]
theorem sc_law_led : FnScope N_law_led ["_law_line", "_law_table"] (defScope (top 89)) := ⟨rfl, rfl, rfl, by decide +kernel, rfl, by decide +kernel, by decide +kernel⟩
theorem Tx.D_law_led (T : Tx K mg) : ∃ fd, FunD K "_law_led" "_law_led" (defArgs (top 89)) (defBody (top 89)) (defScope (top 89)) [] [] (He.ga K "_law_led") fd ∧ Binds K fd ["_law_line", "_law_table"] [] := let ⟨fd, h⟩ := T.c.def_ 47 (d := d_law_led) rfl; ⟨fd, h, FunD.bindsN h fun _ _ _ _ _ _ us hl => match us, hl with | [_, _], _ => rfl⟩
abbrev N_law_low : List Str := ["_law_line", "_law_low_here", "_law_x"]
theorem sc_law_low : FnScope N_law_low ["_law_line"] (defScope (top 90)) := ⟨rfl, rfl, rfl, by decide +kernel, rfl, by decide +kernel, by decide +kernel⟩
theorem Tx.D_law_low (T : Tx K mg) : ∃ fd, FunD K "_law_low" "_law_low" (defArgs (top 90)) (defBody (top 90)) (defScope (top 90)) [] [] (He.ga K "_law_low") fd ∧ Binds K fd ["_law_line"] [] := let ⟨fd, h⟩ := T.c.def_ 48 (d := d_law_low) rfl; ⟨fd, h, FunD.bindsN h fun _ _ _ _ _ _ us hl => match us, hl with | [_], _ => rfl⟩
abbrev N_law_lots : List Str := ["_law_world_here", "_law_most", "_law_asks_here", "_law_lots_here", "_law_rows", "_law_places", "_law_steps", "_law_place", "_law_items", "_law_k", "_law_after", "_law_lot"]
theorem sc_law_lots : FnScope N_law_lots ["_law_world_here", "_law_most"] (defScope (top 91)) := ⟨rfl, rfl, rfl, by decide +kernel, rfl, by decide +kernel, by decide +kernel⟩
theorem Tx.D_law_lots (T : Tx K mg) : ∃ fd, FunD K "_law_lots" "_law_lots" (defArgs (top 91)) (defBody (top 91)) (defScope (top 91)) [] [] (He.ga K "_law_lots") fd ∧ Binds K fd ["_law_world_here", "_law_most"] [] := let ⟨fd, h⟩ := T.c.def_ 49 (d := d_law_lots) rfl; ⟨fd, h, FunD.bindsN h fun _ _ _ _ _ _ us hl => match us, hl with | [_, _], _ => rfl⟩
abbrev N_law_classes : List Str := ["_law_steps", "_law_classes_here", "_law_many", "_law_turn", "_law_known", "_law_found", "_law_k", "_law_sign", "_law_step"]
theorem sc_law_classes : FnScope N_law_classes ["_law_steps"] (defScope (top 92)) := ⟨rfl, rfl, rfl, by decide +kernel, rfl, by decide +kernel, by decide +kernel⟩
theorem Tx.D_law_classes (T : Tx K mg) : ∃ fd, FunD K "_law_classes" "_law_classes" (defArgs (top 92)) (defBody (top 92)) (defScope (top 92)) [] [] (He.ga K "_law_classes") fd ∧ Binds K fd ["_law_steps"] [] := let ⟨fd, h⟩ := T.c.def_ 50 (d := d_law_classes) rfl; ⟨fd, h, FunD.bindsN h fun _ _ _ _ _ _ us hl => match us, hl with | [_], _ => rfl⟩
abbrev N_law_shrunk : List Str := ["_law_asks_here", "_law_first", "_law_steps", "_law_classes_here", "_law_order", "_law_rows", "_law_numbers", "_law_items", "_law_place", "_law_item", "_law_k", "_law_step", "_law_sign"]
theorem sc_law_shrunk : FnScope N_law_shrunk ["_law_asks_here", "_law_first", "_law_steps"] (defScope (top 93)) := ⟨rfl, rfl, rfl, by decide +kernel, rfl, by decide +kernel, by decide +kernel⟩
theorem Tx.D_law_shrunk (T : Tx K mg) : ∃ fd, FunD K "_law_shrunk" "_law_shrunk" (defArgs (top 93)) (defBody (top 93)) (defScope (top 93)) [] [] (He.ga K "_law_shrunk") fd ∧ Binds K fd ["_law_asks_here", "_law_first", "_law_steps"] [] := let ⟨fd, h⟩ := T.c.def_ 51 (d := d_law_shrunk) rfl; ⟨fd, h, FunD.bindsN h fun _ _ _ _ _ _ us hl => match us, hl with | [_, _, _], _ => rfl⟩
abbrev N_law_machine : List Str := ["_law_world_here", "_law_most", "_law_told", "_law_lots_here", "_law_rows", "_law_steps", "_law_closes", "_law_items", "_law_k", "_law_lot", "_law_x", "_law_y", "_law_step"]
theorem sc_law_machine : FnScope N_law_machine ["_law_world_here", "_law_most"] (defScope (top 94)) := ⟨rfl, rfl, rfl, by decide +kernel, rfl, by decide +kernel, by decide +kernel⟩
theorem Tx.D_law_machine (T : Tx K mg) : ∃ fd, FunD K "_law_machine" "_law_machine" (defArgs (top 94)) (defBody (top 94)) (defScope (top 94)) [] [] (He.ga K "_law_machine") fd ∧ Binds K fd ["_law_world_here", "_law_most"] [] := let ⟨fd, h⟩ := T.c.def_ 52 (d := d_law_machine) rfl; ⟨fd, h, FunD.bindsN h fun _ _ _ _ _ _ us hl => match us, hl with | [_, _], _ => rfl⟩
abbrev N_law_row : List Str := ["_law_source_here", "_law_asks_here", "_law_longest", "_law_size", "_law_k"]
theorem sc_law_row : FnScope N_law_row ["_law_source_here", "_law_asks_here", "_law_longest"] (defScope (top 95)) := ⟨rfl, rfl, rfl, by decide +kernel, rfl, by decide +kernel, by decide +kernel⟩
theorem Tx.D_law_row (T : Tx K mg) : ∃ fd, FunD K "_law_row" "_law_row" (defArgs (top 95)) (defBody (top 95)) (defScope (top 95)) [] [] (He.ga K "_law_row") fd ∧ Binds K fd ["_law_source_here", "_law_asks_here", "_law_longest"] [] := let ⟨fd, h⟩ := T.c.def_ 53 (d := d_law_row) rfl; ⟨fd, h, FunD.bindsN h fun _ _ _ _ _ _ us hl => match us, hl with | [_, _, _], _ => rfl⟩
abbrev N_law_gate : List Str := ["_law_source_here", "_law_asks_here", "_law_many", "_law_steps", "_law_place", "_law_item", "_law_ask", "_law_after"]
theorem sc_law_gate : FnScope N_law_gate ["_law_source_here", "_law_asks_here"] (defScope (top 96)) := ⟨rfl, rfl, rfl, by decide +kernel, rfl, by decide +kernel, by decide +kernel⟩
theorem Tx.D_law_gate (T : Tx K mg) : ∃ fd, FunD K "_law_gate" "_law_gate" (defArgs (top 96)) (defBody (top 96)) (defScope (top 96)) [] [] (He.ga K "_law_gate") fd ∧ Binds K fd ["_law_source_here", "_law_asks_here"] [] := let ⟨fd, h⟩ := T.c.def_ 54 (d := d_law_gate) rfl; ⟨fd, h, FunD.bindsN h fun _ _ _ _ _ _ us hl => match us, hl with | [_, _], _ => rfl⟩
abbrev N_law_spots : List Str := ["_law_asks_here", "_law_machines", "_law_doors", "_law_most", "_law_nodes", "_law_rows", "_law_places", "_law_moves", "_law_place", "_law_spot", "_law_items", "_law_k", "_law_after", "_law_node", "_law_machine_here", "_law_kind"]
theorem sc_law_spots : FnScope N_law_spots ["_law_asks_here", "_law_machines", "_law_doors", "_law_most"] (defScope (top 97)) := ⟨rfl, rfl, rfl, by decide +kernel, rfl, by decide +kernel, by decide +kernel⟩
theorem Tx.D_law_spots (T : Tx K mg) : ∃ fd, FunD K "_law_spots" "_law_spots" (defArgs (top 97)) (defBody (top 97)) (defScope (top 97)) [] [] (He.ga K "_law_spots") fd ∧ Binds K fd ["_law_asks_here", "_law_machines", "_law_doors", "_law_most"] [] := let ⟨fd, h⟩ := T.c.def_ 55 (d := d_law_spots) rfl; ⟨fd, h, FunD.bindsN h fun _ _ _ _ _ _ us hl => match us, hl with | [_, _, _, _], _ => rfl⟩
abbrev N_law_gains : List Str := ["_law_web", "_law_machines", "_law_factors", "_law_tallies", "_law_found", "_law_node", "_law_items", "_law_line", "_law_k", "_law_after", "_law_gain", "_law_at"]
theorem sc_law_gains : FnScope N_law_gains ["_law_web", "_law_machines", "_law_factors", "_law_tallies"] (defScope (top 98)) := ⟨rfl, rfl, rfl, by decide +kernel, rfl, by decide +kernel, by decide +kernel⟩
theorem Tx.D_law_gains (T : Tx K mg) : ∃ fd, FunD K "_law_gains" "_law_gains" (defArgs (top 98)) (defBody (top 98)) (defScope (top 98)) [] [] (He.ga K "_law_gains") fd ∧ Binds K fd ["_law_web", "_law_machines", "_law_factors", "_law_tallies"] [] := let ⟨fd, h⟩ := T.c.def_ 56 (d := d_law_gains) rfl; ⟨fd, h, FunD.bindsN h fun _ _ _ _ _ _ us hl => match us, hl with | [_, _, _, _], _ => rfl⟩
abbrev N_law_led_to : List Str := ["_law_asks_here", "_law_moves", "_law_node", "_law_row_here", "_law_total", "_law_letter", "_law_step", "_law_number", "_law_after", "_law_gain"]
theorem sc_law_led_to : FnScope N_law_led_to ["_law_asks_here", "_law_moves", "_law_node", "_law_row_here"] (defScope (top 99)) := ⟨rfl, rfl, rfl, by decide +kernel, rfl, by decide +kernel, by decide +kernel⟩
theorem Tx.D_law_led_to (T : Tx K mg) : ∃ fd, FunD K "_law_led_to" "_law_led_to" (defArgs (top 99)) (defBody (top 99)) (defScope (top 99)) [] [] (He.ga K "_law_led_to") fd ∧ Binds K fd ["_law_asks_here", "_law_moves", "_law_node", "_law_row_here"] [] := let ⟨fd, h⟩ := T.c.def_ 57 (d := d_law_led_to) rfl; ⟨fd, h, FunD.bindsN h fun _ _ _ _ _ _ us hl => match us, hl with | [_, _, _, _], _ => rfl⟩
abbrev N_law_refused : List Str := ["_law_tellers", "_law_factors", "_law_tally", "_law_door", "error"]
theorem sc_law_refused : FnScope N_law_refused ["_law_tellers", "_law_factors", "_law_tally", "_law_door"] (defScope (top 100)) := ⟨rfl, rfl, rfl, by decide +kernel, rfl, by decide +kernel, by decide +kernel⟩
theorem Tx.D_law_refused (T : Tx K mg) : ∃ fd, FunD K "_law_refused" "_law_refused" (defArgs (top 100)) (defBody (top 100)) (defScope (top 100)) [] [] (He.ga K "_law_refused") fd ∧ Binds K fd ["_law_tellers", "_law_factors", "_law_tally", "_law_door"] [] := let ⟨fd, h⟩ := T.c.def_ 58 (d := d_law_refused) rfl; ⟨fd, h, FunD.bindsN h fun _ _ _ _ _ _ us hl => match us, hl with | [_, _, _, _], _ => rfl⟩
abbrev N_law_orders : List Str := ["_law_source_here", "_law_store", "_law_asks_here", "_law_lists_here", "_law_far", "_law_door", "_law_odd", "_law_bad"]
theorem sc_law_orders : FnScope N_law_orders ["_law_source_here", "_law_store", "_law_asks_here"] (defScope (top 101)) := ⟨rfl, rfl, rfl, by decide +kernel, rfl, by decide +kernel, by decide +kernel⟩
theorem Tx.D_law_orders (T : Tx K mg) : ∃ fd, FunD K "_law_orders" "_law_orders" (defArgs (top 101)) (defBody (top 101)) (defScope (top 101)) [] [] (He.ga K "_law_orders") fd ∧ Binds K fd ["_law_source_here", "_law_store", "_law_asks_here"] [] := let ⟨fd, h⟩ := T.c.def_ 59 (d := d_law_orders) rfl; ⟨fd, h, FunD.bindsN h fun _ _ _ _ _ _ us hl => match us, hl with | [_, _, _], _ => rfl⟩
abbrev N_law : List Str := ["_law_script", "_law_source_here", "_law_asks_here", "_law_worlds", "_law_machines", "_law_factors", "_law_tally", "_law_steps", "_law_web", "_law_moves", "_law_tellers", "_law_door", "_law_turn", "_law_row_here", "_law_stem", "_law_ring", "_law_due", "_law_walked", "_law_back", "_law_told", "_law_odd", "_law_world_here", "_law_ask"]
theorem sc_law : FnScope N_law ["_law_script"] (defScope (top 102)) := ⟨rfl, rfl, rfl, by decide +kernel, rfl, by decide +kernel, by decide +kernel⟩
theorem Tx.D_law (T : Tx K mg) : ∃ fd, FunD K "law" "law" (defArgs (top 102)) (defBody (top 102)) (defScope (top 102)) [] [] (He.ga K "law") fd ∧ Binds K fd ["_law_script"] [] := let ⟨fd, h⟩ := T.c.def_ 60 (d := d_law) rfl; ⟨fd, h, FunD.bindsN h fun _ _ _ _ _ _ us hl => match us, hl with | [_], _ => rfl⟩
end Afw

/-! text HeadX -/
set_option Elab.async false
set_option linter.all false
set_option maxRecDepth 100000
set_option maxHeartbeats 4000000
namespace Afw
open PySem PySem.W L2 PySem.Spec PyProof.Rows
/-! the facts of the exception classes, as one Bool -/
def oexB (K : PySem.W.Frag) (C : Addr) : Bool := match K.lookup C with
  | some ⟨.type "type", _, .cls cd, sl⟩ => (match cd.mro, sl.toList with
    | .ref D :: bm, [_, _, _, _, some (.builtin n), _] => decide (D = C) && (decide (n = "ValueError.__new__") && (!cd.hasDel && (cd.hasDict && PySem.HandSPX.refsVE bm)))
    | _, _ => false)
  | _ => false
def allB : List Bool → Bool
  | [] => true
  | b :: l => b && allB l
def mkxL (K : PySem.W.Frag) (C fI : Addr) (f : Str) : List Bool :=
  [oexB K C, decide (PySem.W.findIn K (.ref C) "__setattr__" = some (some (.builtin "object.__setattr__"))), decide (PySem.W.subIn K (.ref C) (.type "BaseException") = some true), decide (PySem.W.typeIn K (.ref C) = some (.type "type")), PySem.W.keepIn K (.ref C),
    decide (PySem.W.findIn K (.ref C) "__init__" = some (some (.ref fI))), decide (PySem.W.typeIn K (.ref fI) = some (.type "function")), decide (PySem.W.findIn K (.ref C) f = some none), xfB K C]
abbrev cBF (K : PySem.W.Frag) : Addr := He.ga K "BadFactors"
abbrev cBC (K : PySem.W.Frag) : Addr := He.ga K "BadCounts"
abbrev cUL (K : PySem.W.Frag) : Addr := He.ga K "Unlike"
abbrev cAE (K : PySem.W.Frag) : Addr := He.ga K "AfterError"
abbrev iWT (K : PySem.W.Frag) : Addr := He.ma K (He.ga K "WrongThing") "__init__"
abbrev iUL (K : PySem.W.Frag) : Addr := He.ma K (He.ga K "Unlike") "__init__"
def exmB (K : PySem.W.Frag) (C D : Addr) (b : Bool) : Bool := decide (PySem.W.exmOne K (.ref C) (.ref D) = some b)
def isxL (K : PySem.W.Frag) (C : Addr) : List Bool := [(PySem.W.clsIn K C).isSome, decide (PySem.W.findIn K (.ref C) "__getattribute__" = some (some (.builtin "BaseException.__getattribute__"))), decide (PySem.W.findIn K (.ref C) "__getattr__" = some none), decide (PySem.W.subIn K (.ref C) (.type "BaseException") = some true),
  decide (PySem.W.findIn K (.ref C) "__class__" = some (some (.builtin "object.__class__"))), decide (PySem.W.specialIn K (.builtin "object.__class__") "__get__" = some (some (.builtin "getset_descriptor.__get__"))), decide (PySem.W.takesIn K (.builtin "object.__class__") = some true), decide (PySem.W.mroIn K C (.type "object") = some true)]
def exL (K : PySem.W.Frag) : List Bool :=
  [allB (mkxL K (cBF K) (iWT K) "thing"), allB (mkxL K (cBC K) (iWT K) "thing"), allB (mkxL K (cUL K) (iUL K) "word"), allB (isxL K (cBF K)), decide (PySem.W.kitOne K (.ref (cBF K)) (.ref (cAE K)) = some true),
    exmB K (cBF K) (cBF K) true, exmB K (cBC K) (cBF K) false, exmB K (cBC K) (cBC K) true, exmB K (cUL K) (cBF K) false, exmB K (cUL K) (cBC K) false, exmB K (cUL K) (cUL K) true,
    decide (PySem.W.findIn K (.ref (He.ga K "Store")) "__class__" = some (some (.builtin "object.__class__"))), decide (PySem.W.mroIn K (He.ga K "Store") (.type "object") = some true)]
def exB (K : PySem.W.Frag) : Bool := allB (exL K)
end Afw

/-! text HeadR -/
set_option Elab.async false
set_option linter.all false
set_option maxRecDepth 100000
set_option maxHeartbeats 0
namespace Afw
open PySem PySem.Spec PyProof.Rows L2
/-! what the module's names reach, each once: globals, their code and defaults, the classes' own dicts, the methods there -/
def valsO (o : Obj) : List Addr := match o.data with
  | .dict es _ => es.toList.flatMap fun e => He.refV e.val
  | _ => []
def fnSub (o : Obj) : List Addr := match o.data with
  | .func fd => He.refV fd.code ++ (He.refV fd.defaults ++ He.refV fd.kwdefaults)
  | _ => []
def subA (g : Addr → Option Obj) (a : Addr) : List Addr := match g a with
  | some o => (match o.data with
    | .func fd => fnSub o
    | .cls cd => cd.ns :: (match g cd.ns with
      | some n => (valsO n).flatMap fun f => f :: (match g f with
        | some m => fnSub m
        | none => [])
      | none => [])
    | _ => [])
  | none => []
def asM (g : Addr → Option Obj) : List Addr := match g mainGlobals with
  | some o => mainGlobals :: (valsO o ++ (valsO o).flatMap (subA g))
  | none => []
/-- lists are left out: none of the facts is of a list, and the script is one -/
def lst? : Option Obj → Bool
  | some o => (match o.cls with
    | .type c => decide (c = "list")
    | _ => false)
  | none => false
def frL (g : Addr → Option Obj) : PySem.W.Frag := He.frG g ((asM g).filter fun a => !lst? (g a))
theorem frG_from {g : Addr → Option Obj} {a : Addr} {o : Obj} : ∀ {as : List Addr}, (He.frG g as).lookup a = some o → a ∈ as
  | [], h => by cases h
  | b :: r, h => by
    cases hb : g b with
    | none =>
      have h2 : (He.frG g r).lookup a = some o := by
        unfold He.frG at h ⊢
        rw [List.filterMap_cons, hb] at h
        exact h
      exact List.mem_cons_of_mem _ (frG_from h2)
    | some u =>
      have h2 : ((b, u) :: He.frG g r).lookup a = some o := by
        unfold He.frG at h ⊢
        rw [List.filterMap_cons, hb] at h
        exact h
      by_cases z : a = b
      · rw [z]; exact List.mem_cons_self
      · rw [List.lookup_cons, show (a == b) = false by simpa using z] at h2
        exact List.mem_cons_of_mem _ (frG_from h2)
theorem frL_no {g : Addr → Option Obj} {a : Addr} {o : Obj} (h : (frL g).lookup a = some o) : lst? (some o) = false := by
  have h1 := (List.mem_filter.mp (frG_from h)).2
  rw [He.frG_at _ h] at h1
  simpa using h1
def obsM (fa : List He.Fa) (fn : List He.DefD) (ex : PySem.W.Frag → Bool) (g : Addr → Option Obj) : He.AlD × Bool := (He.obsD fa fn (frL g), ex (frL g))
structure SaysM (fa : List He.Fa) (fn : List He.DefD) (ex : PySem.W.Frag → Bool) (h : Heap) (K : PySem.W.Frag) : Prop where
  i : K.In h
  s : He.SaysD fa fn K
  e : ex K = true
  l : ∀ a o, K.lookup a = some o → lst? (some o) = false
def hookM (fa : List He.Fa) (fn : List He.DefD) (ex : PySem.W.Frag → Bool) : PySem.W.Hook where
  α := He.AlD × Bool
  obs := fun s => obsM fa fn ex s.heap.get?
  val := fun _ => (He.valD fn, true)
  says := fun _ h => ∃ K : PySem.W.Frag, SaysM fa fn ex h K
  of := fun _ _ e => ⟨_, He.frG_in, congrArg (fun z : He.AlD × Bool => z.1) e, congrArg (fun z : He.AlD × Bool => z.2) e, fun _ _ z => frL_no z⟩
  keeps := fun _ _ _ ⟨K, c⟩ k => ⟨K, PySem.W.Frag.In.keeps c.i k, c.s, c.e, c.l⟩
theorem obsM_eq {fa : List He.Fa} {fn : List He.DefD} {ex : PySem.W.Frag → Bool} {g : Addr → Option Obj} {s : Shared} (h : ∀ a, g a = s.heap.get? a) : obsM fa fn ex g = (hookM fa fn ex).obs s := by
  have e : g = s.heap.get? := funext h
  rw [e]
  rfl
def names : List PySem.Str := (["_wall", "__name__", "AfterError", "WrongThing", "WrongItem", "BadAsks", "BadRow", "BadAsk", "BadState", "BadFactors", "BadCounts", "BadMachine", "BadGate", "BadStore", "Unlike", "TooMany", "LETTERS", "LONGEST", "is_integer", "is_count", "is_listed", "deep", "is_asks", "check_asks", "row_over", "check_row", "check_ask", "numbers_of", "integers", "MOST_PLACES"] : List PySem.Str) ++ (["is_item", "is_item_gates", "Gate", "passed", "gate_steps", "led", "added", "lowered", "MOST_STANDINGS", "Standings", "standings", "MOST_STATES", "is_table", "are_costs", "Store", "check_state", "pair_sums", "sum_store", "turned_store", "MOST_KINDS", "is_item_machines", "least_rows", "Machine", "went", "classes_of", "shrunk", "shrunk_steps", "standing_steps", "least_machine", "MOST_SPOTS"] : List PySem.Str) ++ (["Web", "spot_moves", "spot_web", "check_tellers", "checked_counts", "taken", "spot_behind", "judge_ring", "_law_cell", "_law_source", "_law_draw", "_law_asks", "_law_prices", "_law_any_table", "_law_change", "_law_changes", "_law_served", "_law_world", "_law_lists", "_law_led", "_law_low", "_law_lots", "_law_classes", "_law_shrunk", "_law_machine", "_law_row", "_law_gate", "_law_spots", "_law_gains", "_law_led_to"] : List PySem.Str) ++ (["_law_refused", "_law_orders"] : List PySem.Str)
abbrev R : PySem.W.OpenRow := PySem.W.OpenLaw.row PySem.Challenge.rw_afterwise_k17_whole_rings_judged
abbrev hk : PySem.W.Hook := hookM fa fn exB
def ob (s : PySem.W.SharedT) : He.AlD × Bool := obsM fa fn exB (HandSHeadRun.getT s)
theorem ob_eq (s : PySem.W.SharedT) : ob s = hk.obs s.abs := obsM_eq (HandSHeadRun.getT_eq s)
theorem run (w : World) : HandSHeadRun.RunEq R (PySem.W.view R.prog [102]) hk ob 60000 names w := by
  intro os
  kernel_rfl
end Afw

/-! text J1 -/
set_option Elab.async false
set_option linter.all false
set_option maxRecDepth 100000
set_option maxHeartbeats 2000000
/-! J1: judgements whose heap is hidden. A slot is a value's predicate (of a part of the heap that nobody changes), an object of one's own, or a borrowed one. -/
namespace Jd
open PySem L2

abbrev Ex (H H' : Hp) : Prop := ∀ a o, H a = some o → H' a = some o
theorem Ex.rfl {H : Hp} : Ex H H := fun _ _ h => h
theorem Ex.trans {H H1 H2 : Hp} (a : Ex H H1) (b : Ex H1 H2) : Ex H H2 := fun x o h => b x o (a x o h)
theorem Ex.back {H H1 : Hp} (a : Ex H H1) {p : Addr} (h : H1 p = none) : H p = none := by
  cases e : H p with
  | none => rfl
  | some o => rw [a p o e] at h; cases h
theorem Ex.updd {H H1 : Hp} (a : Ex H H1) {p : Addr} {o : HO} : Ex (upd H p o) (upd H1 p o) := fun b u e => by
  by_cases hb : b = p
  · subst hb; rw [upd_same] at e ⊢; exact e
  · rw [upd_ne hb] at e ⊢; exact a b u e
theorem Ex.new {H : Hp} {p : Addr} {o : HO} (h : H p = none) : Ex H (L2.upd H p o) := fun a u e => by
  rw [upd_ne (ne_of_none e h)]
  exact e

/-- a value's predicate, kept when the heap grows -/
structure Mp where
  p : Hp → V → Prop
  up : ∀ {H H' : Hp} {v : V}, Ex H H' → p H v → p H' v
/-- an object's -/
structure Mo where
  p : Hp → Addr → HO → Prop
  up : ∀ {H H' : Hp} {a : Addr} {o : HO}, Ex H H' → p H a o → p H' a o

inductive Slot where
  | any
  | val (m : Mp)
  | own (m : Mo)
  | bor (a : Addr) (m : Mo)

/-- the entry: what stands for good, all that stands, what is lent, what must stay as it is for now -/
structure En where
  f : Hp
  h : Hp
  m : Addr → Prop
  k : Addr → Option HO

structure Ok (e : En) (F H : Hp) : Prop where
  up : Ex e.f F
  sub : Ex F H
  keep : ∀ a o, e.h a = some o → H a = some o ∨ (e.m a ∧ H a ≠ none)
  new : ∀ a, e.f a = none → e.h a ≠ none → F a = none
  kept : ∀ a o, e.k a = some o → H a = some o ∧ F a = none

def Slot.ok (e : En) (F H : Hp) : Slot → Option V → Prop
  | .any, _ => True
  | .val m, o => ∃ v, o = some v ∧ m.p F v
  | .own m, o => ∃ a u, o = some (.ref a) ∧ H a = some u ∧ F a = none ∧ e.h a = none ∧ e.k a = none ∧ m.p F a u
  | .bor a m, o => o = some (.ref a) ∧ e.m a ∧ e.h a ≠ none ∧ e.k a = none ∧ ∃ u, H a = some u ∧ F a = none ∧ m.p F a u

structure Fit (e : En) (ss : List Slot) (σ : St) (F H : Hp) : Prop extends Ok e F H where
  len : σ.length = ss.length
  at_ : ∀ (i : Nat) (s : Slot), ss[i]? = some s → ∃ o, σ[i]? = some o ∧ s.ok e F H o
  dis : ∀ (i j : Nat) (m n : Mo), i ≠ j → ss[i]? = some (.own m) → ss[j]? = some (.own n) → σ[i]? ≠ σ[j]?
  bdis : ∀ (i j : Nat) (a b : Addr) (m n : Mo), i ≠ j → ss[i]? = some (.bor a m) → ss[j]? = some (.bor b n) → a ≠ b

variable {e : En} {ss ss' ss1 ss2 : List Slot} {σ σ' : St} {F F' H H' : Hp}

theorem Ok.frame (I : Ok e F H) (a : Ex F F') (b : Ex F' H') (c : Ex H H') (n : ∀ x, F x = none → H x ≠ none → F' x = none) : Ok e F' H' where
  up := I.up.trans a
  sub := b
  keep := fun x o q => by
    rcases I.keep x o q with z | ⟨z, y⟩
    · exact .inl (c _ _ z)
    · refine .inr ⟨z, fun w => ?_⟩
      exact y (c.back w)
  new := fun x q r => n x (I.new x q r) (by
    cases z : e.h x with
    | none => exact absurd z r
    | some o => rcases I.keep x o z with y | ⟨_, y⟩
                · rw [y]; exact fun t => by cases t
                · exact y)
  kept := fun x o q => by
    obtain ⟨h1, h2⟩ := I.kept x o q
    exact ⟨c _ _ h1, n x h2 (by rw [h1]; exact fun t => by cases t)⟩
theorem Slot.ok_frame {s : Slot} {o : Option V} (h : s.ok e F H o) (a : Ex F F') (c : Ex H H') (n : ∀ x, F x = none → H x ≠ none → F' x = none) : s.ok e F' H' o := by
  cases s with
  | any => trivial
  | val m => obtain ⟨v, q, r⟩ := h; exact ⟨v, q, m.up a r⟩
  | own m => obtain ⟨p, u, q1, q2, q3, q4, q5, q6⟩ := h; exact ⟨p, u, q1, c _ _ q2, n _ q3 (by rw [q2]; exact fun t => by cases t), q4, q5, m.up a q6⟩
  | bor p m => obtain ⟨q1, q2, q3, q4, u, q5, q6, q7⟩ := h; exact ⟨q1, q2, q3, q4, u, c _ _ q5, n _ q6 (by rw [q5]; exact fun t => by cases t), m.up a q7⟩
theorem Fit.frame (I : Fit e ss σ F H) (a : Ex F F') (b : Ex F' H') (c : Ex H H') (n : ∀ x, F x = none → H x ≠ none → F' x = none) : Fit e ss σ F' H' :=
  { I.toOk.frame a b c n with
    len := I.len
    at_ := fun i s q => let ⟨o, h1, h2⟩ := I.at_ i s q; ⟨o, h1, Slot.ok_frame h2 a c n⟩
    dis := I.dis
    bdis := I.bdis }
/-- a new object that stands for good -/
theorem Fit.lay (I : Fit e ss σ F H) {p : Addr} {o : HO} (hp : H p = none) : Fit e ss σ (upd F p o) (upd H p o) :=
  I.frame (Ex.new (I.sub.back hp)) I.sub.updd (Ex.new hp) fun x h1 h2 => by
    rw [upd_ne (fun z => h2 (by rw [z]; exact hp))]; exact h1
/-- a new object of which nothing is told -/
theorem Fit.grow (I : Fit e ss σ F H) {p : Addr} {o : HO} (hp : H p = none) : Fit e ss σ F (upd H p o) :=
  I.frame Ex.rfl (I.sub.trans (Ex.new hp)) (Ex.new hp) fun x h1 _ => h1
theorem Ok.growE (I : Ok e F H) {p : Addr} {o : HO} (hp : H p = none) : Ok e F (upd H p o) :=
  I.frame Ex.rfl (I.sub.trans (Ex.new hp)) (Ex.new hp) fun x h1 _ => h1

/-! ### predicates -/
def mInt (i : Int) : Mp := ⟨fun _ v => v = .int i, fun _ h => h⟩
def mStr (s : Str) : Mp := ⟨fun _ v => v = .str s, fun _ h => h⟩
def mBool (b : Bool) : Mp := ⟨fun _ v => v = .bl b, fun _ h => h⟩
def mNone : Mp := ⟨fun _ v => v = .non, fun _ h => h⟩
def mTrue : Mp := ⟨fun _ _ => True, fun _ h => h⟩
def allP (H : Hp) : List Mp → List V → Prop
  | [], [] => True
  | m :: ms, v :: vs => m.p H v ∧ allP H ms vs
  | _, _ => False
theorem allP.up {H H' : Hp} (x : Ex H H') : ∀ {ms : List Mp} {vs : List V}, allP H ms vs → allP H' ms vs
  | [], [], _ => trivial
  | m :: _, _ :: _, h => ⟨m.up x h.1, allP.up x h.2⟩
  | [], _ :: _, h => h.elim
  | _ :: _, [], h => h.elim
theorem allP.length {H : Hp} : ∀ {ms : List Mp} {vs : List V}, allP H ms vs → vs.length = ms.length
  | [], [], _ => rfl
  | _ :: _, _ :: _, h => congrArg (· + 1) (allP.length h.2)
  | [], _ :: _, h => h.elim
  | _ :: _, [], h => h.elim
theorem allP.get {H : Hp} : ∀ {ms : List Mp} {vs : List V} {i : Nat} {m : Mp}, allP H ms vs → ms[i]? = some m → ∃ v, vs[i]? = some v ∧ m.p H v
  | m :: _, v :: _, 0, _, h, e => by cases e; exact ⟨v, rfl, h.1⟩
  | _ :: ms, _ :: vs, i + 1, _, h, e => by
    obtain ⟨v, h1, h2⟩ := allP.get (ms := ms) (vs := vs) (i := i) h.2 (by simpa using e)
    exact ⟨v, by simpa using h1, h2⟩
  | [], [], _, _, _, e => by simp at e
  | [], _ :: _, _, _, h, _ => h.elim
  | _ :: _, [], _, _, h, _ => h.elim
theorem allP.append {H : Hp} : ∀ {ms ns : List Mp} {vs us : List V}, allP H ms vs → allP H ns us → allP H (ms ++ ns) (vs ++ us)
  | [], _, [], _, _, h => h
  | _ :: _, _, _ :: _, _, h, k => ⟨h.1, allP.append h.2 k⟩
  | [], _, _ :: _, _, h, _ => h.elim
  | _ :: _, _, [], _, h, _ => h.elim
theorem allP.set {H : Hp} {m : Mp} {v : V} (q : m.p H v) : ∀ {ms : List Mp} {vs : List V} (i : Nat), allP H ms vs → allP H (ms.set i m) (vs.set i v)
  | [], [], _, h => h
  | _ :: _, _ :: _, 0, h => ⟨q, h.2⟩
  | _ :: _, _ :: _, i + 1, h => ⟨h.1, allP.set q i h.2⟩
  | [], _ :: _, _, h => h.elim
  | _ :: _, [], _, h => h.elim
theorem allP.rep {H : Hp} {ms : List Mp} {vs : List V} (h : allP H ms vs) : ∀ n : Nat, allP H (List.replicate n ms).flatten (List.replicate n vs).flatten
  | 0 => trivial
  | n + 1 => by
    rw [List.replicate_succ, List.replicate_succ, List.flatten_cons, List.flatten_cons]
    exact h.append (allP.rep h n)
theorem allP.drop {H : Hp} : ∀ {ms : List Mp} {vs : List V} (n : Nat), allP H ms vs → allP H (ms.drop n) (vs.drop n)
  | _, _, 0, h => h
  | [], [], _ + 1, h => h
  | _ :: _, _ :: _, n + 1, h => allP.drop n h.2
  | [], _ :: _, _ + 1, h => h.elim
  | _ :: _, [], _ + 1, h => h.elim
theorem allP.take {H : Hp} : ∀ {ms : List Mp} {vs : List V} (n : Nat), allP H ms vs → allP H (ms.take n) (vs.take n)
  | _, _, 0, _ => trivial
  | [], [], _ + 1, h => h
  | _ :: _, _ :: _, n + 1, h => ⟨h.1, allP.take n h.2⟩
  | [], _ :: _, _ + 1, h => h.elim
  | _ :: _, [], _ + 1, h => h.elim

def mL (ms : List Mp) : Mp := ⟨fun H v => ∃ a vs, v = .ref a ∧ Rd H a (.lst vs) ∧ allP H ms vs, fun x h => by
  obtain ⟨a, vs, h1, h2, h3⟩ := h
  refine ⟨a, vs, h1, ?_, h3.up x⟩
  rcases h2 with h2 | ⟨o, h2⟩
  · exact .inl (x _ _ h2)
  · exact .inr ⟨o, x _ _ h2⟩⟩
def mT (ms : List Mp) : Mp := ⟨fun H v => ∃ a vs, v = .ref a ∧ H a = some (.tup vs) ∧ allP H ms vs, fun x h => by
  obtain ⟨a, vs, h1, h2, h3⟩ := h
  exact ⟨a, vs, h1, x _ _ h2, h3.up x⟩⟩
def oL (ms : List Mp) : Mo := ⟨fun H _ o => ∃ vs, o = .lst vs ∧ allP H ms vs, fun x h => by
  obtain ⟨vs, h1, h3⟩ := h
  exact ⟨vs, h1, h3.up x⟩⟩
/-- an instance: its class, its fields -/
def oI (C : Addr) (fs : List (Str × Mp)) : Mo := ⟨fun H _ o => ∃ dx vs, o = .ins C dx ((fs.map (·.1)).zip vs) ∧ allP H (fs.map (·.2)) vs, fun x h => by
  obtain ⟨dx, vs, h1, h3⟩ := h
  exact ⟨dx, vs, h1, h3.up x⟩⟩
def mI (C : Addr) (fs : List (Str × Mp)) : Mp := ⟨fun H v => ∃ a o, v = .ref a ∧ H a = some o ∧ (oI C fs).p H a o, fun x h => by
  obtain ⟨a, o, h1, h2, h3⟩ := h
  exact ⟨a, o, h1, x _ _ h2, (oI C fs).up x h3⟩⟩
/-- a dict with int keys and int values -/
def oD (kvs : List (Int × Int)) : Mo := ⟨fun _ _ o => o = .dK (kvs.map fun p => (Sum.inl p.1, V.int p.2)), fun _ h => h⟩
/-- a dict whose keys are tuples of ints -/
def oDT (kvs : List (List Int × Int)) : Mo := ⟨fun _ _ o => o = .dT (kvs.map fun p => (p.1.map Sum.inl, V.int p.2)), fun _ h => h⟩

/-! ### slots are changed -/
theorem Fit.get (I : Fit e ss σ F H) {i : Nat} {s : Slot} (h : ss[i]? = some s) : ∃ o, σ[i]? = some o ∧ s.ok e F H o := I.at_ i s h
theorem getset {α : Type} {l : List α} {i j : Nat} {x y : α} (h : (l.set i x)[j]? = some y) : (i = j ∧ y = x ∧ j < l.length) ∨ (i ≠ j ∧ l[j]? = some y) := by
  rw [List.getElem?_set] at h
  by_cases z : i = j
  · rw [if_pos z] at h
    by_cases y' : i < l.length
    · rw [if_pos y'] at h; cases h; exact .inl ⟨z, rfl, by omega⟩
    · rw [if_neg y'] at h; cases h
  · rw [if_neg z] at h; exact .inr ⟨z, h⟩
/-- slot i gets a value -/
theorem Fit.setV (I : Fit e ss σ F H) {i : Nat} {m : Mp} {v : V} (h : m.p F v) : Fit e (ss.set i (.val m)) (σ.set i (some v)) F H :=
  { I.toOk with
    len := by rw [List.length_set, List.length_set]; exact I.len
    at_ := fun j s q => by
      rcases getset q with ⟨z, y, lt⟩ | ⟨z, y⟩
      · subst z; subst y
        refine ⟨some v, ?_, v, rfl, h⟩
        rw [List.getElem?_set_self (by rw [I.len]; exact lt)]
      · obtain ⟨o, h1, h2⟩ := I.at_ j s y
        exact ⟨o, by rw [List.getElem?_set_ne z]; exact h1, h2⟩
    dis := fun a b m n ne qa qb => by
      rcases getset qa with ⟨_, y, _⟩ | ⟨z, y⟩
      · cases y
      · rcases getset qb with ⟨_, y', _⟩ | ⟨z', y'⟩
        · cases y'
        · rw [List.getElem?_set_ne z, List.getElem?_set_ne z']; exact I.dis a b m n ne y y'
    bdis := fun a b x y m n ne qa qb => by
      rcases getset qa with ⟨_, y, _⟩ | ⟨z, y⟩
      · cases y
      · rcases getset qb with ⟨_, y', _⟩ | ⟨z', y'⟩
        · cases y'
        · exact I.bdis a b _ _ m n ne y y' }
/-- slots are forgotten -/
def Le (ss ss' : List Slot) : Prop := ss.length = ss'.length ∧ ∀ (i : Nat) (s : Slot), ss'[i]? = some s → s = .any ∨ ss[i]? = some s
theorem Le.rfl : Le ss ss := ⟨Eq.refl _, fun _ _ h => .inr h⟩
theorem Fit.weak (I : Fit e ss σ F H) (h : Le ss ss') : Fit e ss' σ F H :=
  { I.toOk with
    len := I.len.trans h.1
    at_ := fun i s q => by
      rcases h.2 i s q with z | z
      · subst z
        have lt : i < ss'.length := (List.getElem?_eq_some_iff.mp q).1
        exact ⟨σ[i]'(by rw [I.len, h.1]; exact lt), List.getElem?_eq_getElem _, trivial⟩
      · exact I.at_ i s z
    dis := fun i j m n ne qi qj => by
      rcases h.2 i _ qi with z | z
      · cases z
      · rcases h.2 j _ qj with z' | z'
        · cases z'
        · exact I.dis i j m n ne z z'
    bdis := fun i j a b m n ne qi qj => by
      rcases h.2 i _ qi with z | z
      · cases z
      · rcases h.2 j _ qj with z' | z'
        · cases z'
        · exact I.bdis i j a b m n ne z z' }
/-- a slot's value may be anything where nothing is told of it -/
theorem Fit.setAny (I : Fit e ss σ F H) {i : Nat} {o : Option V} : Fit e (ss.set i .any) (σ.set i o) F H :=
  { I.toOk with
    len := by rw [List.length_set, List.length_set]; exact I.len
    at_ := fun j s q => by
      rcases getset q with ⟨z, y, lt⟩ | ⟨z, y⟩
      · subst z; subst y
        exact ⟨o, by rw [List.getElem?_set_self (by rw [I.len]; exact lt)], trivial⟩
      · obtain ⟨o, h1, h2⟩ := I.at_ j s y
        exact ⟨o, by rw [List.getElem?_set_ne z]; exact h1, h2⟩
    dis := fun a b m n ne qa qb => by
      rcases getset qa with ⟨_, y, _⟩ | ⟨z, y⟩
      · cases y
      · rcases getset qb with ⟨_, y', _⟩ | ⟨z', y'⟩
        · cases y'
        · rw [List.getElem?_set_ne z, List.getElem?_set_ne z']; exact I.dis a b m n ne y y'
    bdis := fun a b x y m n ne qa qb => by
      rcases getset qa with ⟨_, y, _⟩ | ⟨z, y⟩
      · cases y
      · rcases getset qb with ⟨_, y', _⟩ | ⟨z', y'⟩
        · cases y'
        · exact I.bdis a b _ _ m n ne y y' }
/-- an object of one's own at a, fresh to every slot -/
structure Own1 (e : En) (ss : List Slot) (σ : St) (F H : Hp) (a : Addr) (m : Mo) : Prop where
  u : ∃ u, H a = some u ∧ m.p F a u
  f : F a = none
  h : e.h a = none
  k : e.k a = none
  ne : ∀ (i : Nat) (n : Mo), ss[i]? = some (Slot.own n) → σ[i]? ≠ some (some (.ref a))
/-- slot i gets an own object -/
theorem Fit.setO (I : Fit e ss σ F H) {i : Nat} {m : Mo} {a : Addr} (h : Own1 e ss σ F H a m) : Fit e (ss.set i (.own m)) (σ.set i (some (.ref a))) F H :=
  { I.toOk with
    len := by rw [List.length_set, List.length_set]; exact I.len
    at_ := fun j s q => by
      rcases getset q with ⟨z, y, lt⟩ | ⟨z, y⟩
      · subst z; subst y
        obtain ⟨u, h1, h2⟩ := h.u
        refine ⟨some (.ref a), ?_, a, u, rfl, h1, h.f, h.h, h.k, h2⟩
        rw [List.getElem?_set_self (by rw [I.len]; exact lt)]
      · obtain ⟨o, h1, h2⟩ := I.at_ j s y
        exact ⟨o, by rw [List.getElem?_set_ne z]; exact h1, h2⟩
    dis := fun x y m' n ne qa qb => by
      rcases getset qa with ⟨z, _, lt⟩ | ⟨z, w⟩
      · rcases getset qb with ⟨z', _, _⟩ | ⟨z', w'⟩
        · exact absurd (z.symm.trans z') ne
        · subst z
          rw [List.getElem?_set_self (by rw [I.len]; exact lt), List.getElem?_set_ne z']
          exact fun q => h.ne y n w' q.symm
      · rcases getset qb with ⟨z', _, lt⟩ | ⟨z', w'⟩
        · subst z'
          rw [List.getElem?_set_self (by rw [I.len]; exact lt), List.getElem?_set_ne z]
          exact fun q => h.ne x m' w q
        · rw [List.getElem?_set_ne z, List.getElem?_set_ne z']; exact I.dis x y m' n ne w w'
    bdis := fun a b x y m n ne qa qb => by
      rcases getset qa with ⟨_, y, _⟩ | ⟨z, y⟩
      · cases y
      · rcases getset qb with ⟨_, y', _⟩ | ⟨z', y'⟩
        · cases y'
        · exact I.bdis a b _ _ m n ne y y' }
theorem some_ne {α : Type} {o : Option α} {x : α} (h : o = some x) : o ≠ none := by rw [h]; exact fun t => by cases t
/-- the object at a, in slot i, stands for good from now on -/
theorem Fit.freeze (I : Fit e ss σ F H) {i : Nat} {m : Mo} {n : Mp} (h : ss[i]? = some (.own m)) (hn : ∀ (F : Hp) (a : Addr) (u : HO), F a = some u → m.p F a u → n.p F (.ref a)) :
    ∃ a F', σ[i]? = some (some (.ref a)) ∧ Ex F F' ∧ Fit e (ss.set i (.val n)) σ F' H ∧ n.p F' (.ref a) := by
  obtain ⟨o, h1, a, u, rfl, h2, h3, h4, h5, h6⟩ := I.at_ i _ h
  have x : Ex F (upd F a u) := Ex.new h3
  have sub : Ex (upd F a u) H := fun b w q => by
    by_cases z : b = a
    · subst z; rw [upd_same] at q; cases q; exact h2
    · rw [upd_ne z] at q; exact I.sub b w q
  have nv : n.p (upd F a u) (.ref a) := hn _ a u upd_same (m.up x h6)
  have oth : ∀ (b : Addr), b ≠ a → F b = none → (upd F a u) b = none := fun b z q => by rw [upd_ne z]; exact q
  refine ⟨a, upd F a u, h1, x, ?_, nv⟩
  exact
    { up := I.up.trans x
      sub := sub
      keep := I.keep
      new := fun b q r => oth b (fun z => r (by rw [z]; exact h4)) (I.new b q r)
      kept := fun b o q => ⟨(I.kept b o q).1, oth b (fun z => by rw [z, h5] at q; cases q) (I.kept b o q).2⟩
      len := by rw [List.length_set]; exact I.len
      at_ := fun j s q => by
        rcases getset q with ⟨z, y, lt⟩ | ⟨z, y⟩
        · subst z; subst y
          exact ⟨_, h1, _, rfl, nv⟩
        · obtain ⟨o', g1, g2⟩ := I.at_ j s y
          refine ⟨o', g1, ?_⟩
          cases s with
          | any => trivial
          | val m' => obtain ⟨v, q1, r⟩ := g2; exact ⟨v, q1, m'.up x r⟩
          | own m' =>
            obtain ⟨p, u', q1, q2, q3, q4, q5, q6⟩ := g2
            refine ⟨p, u', q1, q2, oth p (fun w => ?_) q3, q4, q5, m'.up x q6⟩
            subst w
            refine I.dis i j m m' z h y ?_
            rw [h1, g1, q1]
          | bor p m' =>
            obtain ⟨q1, q2, q3, q4, u', q5, q6, q7⟩ := g2
            refine ⟨q1, q2, q3, q4, u', q5, oth p (fun w => q3 (by rw [w]; exact h4)) q6, m'.up x q7⟩
      dis := fun x y m' n' ne qa qb => by
        rcases getset qa with ⟨_, w, _⟩ | ⟨_, w⟩
        · cases w
        · rcases getset qb with ⟨_, w', _⟩ | ⟨_, w'⟩
          · cases w'
          · exact I.dis x y m' n' ne w w'
      bdis := fun a b x y m n ne qa qb => by
        rcases getset qa with ⟨_, y, _⟩ | ⟨z, y⟩
        · cases y
        · rcases getset qb with ⟨_, y', _⟩ | ⟨z', y'⟩
          · cases y'
          · exact I.bdis a b _ _ m n ne y y' }
/-- a fresh own object is let stand for good -/
theorem Own1.freeze {a : Addr} {m : Mo} {n : Mp} (O : Own1 e ss σ F H a m) (I : Fit e ss σ F H) (hn : ∀ (F : Hp) (a : Addr) (u : HO), F a = some u → m.p F a u → n.p F (.ref a)) :
    ∃ F', Ex F F' ∧ Fit e ss σ F' H ∧ n.p F' (.ref a) := by
  obtain ⟨u, h2, h6⟩ := O.u
  have x : Ex F (upd F a u) := Ex.new O.f
  have sub : Ex (upd F a u) H := fun b w q => by
    by_cases z : b = a
    · subst z; rw [upd_same] at q; cases q; exact h2
    · rw [upd_ne z] at q; exact I.sub b w q
  have nv : n.p (upd F a u) (.ref a) := hn _ a u upd_same (m.up x h6)
  have oth : ∀ (b : Addr), b ≠ a → F b = none → (upd F a u) b = none := fun b z q => by rw [upd_ne z]; exact q
  refine ⟨upd F a u, x, ?_, nv⟩
  exact
    { up := I.up.trans x
      sub := sub
      keep := I.keep
      new := fun b q r => oth b (fun z => r (by rw [z]; exact O.h)) (I.new b q r)
      kept := fun b o q => ⟨(I.kept b o q).1, oth b (fun z => by rw [z, O.k] at q; cases q) (I.kept b o q).2⟩
      len := I.len
      at_ := fun j s y => by
          obtain ⟨o', g1, g2⟩ := I.at_ j s y
          refine ⟨o', g1, ?_⟩
          cases s with
          | any => trivial
          | val m' => obtain ⟨v, q1, r⟩ := g2; exact ⟨v, q1, m'.up x r⟩
          | own m' =>
            obtain ⟨p, u', q1, q2, q3, q4, q5, q6⟩ := g2
            refine ⟨p, u', q1, q2, oth p (fun w => ?_) q3, q4, q5, m'.up x q6⟩
            subst w
            exact O.ne j m' y (by rw [g1, q1])
          | bor p m' =>
            obtain ⟨q1, q2, q3, q4, u', q5, q6, q7⟩ := g2
            refine ⟨q1, q2, q3, q4, u', q5, oth p (fun w => q3 (by rw [w]; exact O.h)) q6, m'.up x q7⟩
      dis := I.dis
      bdis := I.bdis }
/-- the own object of slot i is written -/
theorem Fit.write (I : Fit e ss σ F H) {i : Nat} {m n : Mo} {a : Addr} {w : HO} (h : ss[i]? = some (.own m)) (ha : σ[i]? = some (some (.ref a))) (hn : n.p F a w) : Fit e (ss.set i (.own n)) σ F (upd H a w) := by
  obtain ⟨o, h1, a', u, rfl, h2, h3, h4, h5, h6⟩ := I.at_ i _ h
  have ea : a' = a := by
    rw [h1] at ha; cases ha; rfl
  subst ea
  have st : ∀ b o, b ≠ a' → H b = some o → upd H a' w b = some o := fun b o z q => by rw [upd_ne z]; exact q
  exact
    { up := I.up
      sub := fun b o q => st b o (fun z => by rw [z, h3] at q; cases q) (I.sub b o q)
      keep := fun b o q => by
        have z : b ≠ a' := fun z => by rw [z, h4] at q; cases q
        rcases I.keep b o q with y | ⟨y, y'⟩
        · exact .inl (st b o z y)
        · exact .inr ⟨y, by rw [upd_ne z]; exact y'⟩
      new := I.new
      kept := fun b o q => ⟨st b o (fun z => by rw [z, h5] at q; cases q) (I.kept b o q).1, (I.kept b o q).2⟩
      len := by rw [List.length_set]; exact I.len
      at_ := fun j s q => by
        rcases getset q with ⟨z, y, lt⟩ | ⟨z, y⟩
        · subst z; subst y
          exact ⟨_, h1, a', w, rfl, upd_same, h3, h4, h5, hn⟩
        · obtain ⟨o', g1, g2⟩ := I.at_ j s y
          refine ⟨o', g1, ?_⟩
          cases s with
          | any => trivial
          | val m' => exact g2
          | own m' =>
            obtain ⟨p, u', q1, q2, q3, q4, q5, q6⟩ := g2
            refine ⟨p, u', q1, st p u' (fun w => ?_) q2, q3, q4, q5, q6⟩
            subst w
            refine I.dis i j m m' z h y ?_
            rw [h1, g1, q1]
          | bor p m' =>
            obtain ⟨q1, q2, q3, q4, u', q5, q6, q7⟩ := g2
            exact ⟨q1, q2, q3, q4, u', st p u' (fun w => q3 (by rw [w]; exact h4)) q5, q6, q7⟩
      dis := fun x y m' n' ne qa qb => by
        rcases getset qa with ⟨z, w, _⟩ | ⟨z, w⟩
        · rcases getset qb with ⟨z', w', _⟩ | ⟨z', w'⟩
          · exact absurd (z.symm.trans z') ne
          · subst z; exact I.dis i y m n' ne h w'
        · rcases getset qb with ⟨z', w', _⟩ | ⟨z', w'⟩
          · subst z'; exact I.dis x i m' m ne w h
          · exact I.dis x y m' n' ne w w'
      bdis := fun a b x y m n ne qa qb => by
        rcases getset qa with ⟨_, y, _⟩ | ⟨z, y⟩
        · cases y
        · rcases getset qb with ⟨_, y', _⟩ | ⟨z', y'⟩
          · cases y'
          · exact I.bdis a b _ _ m n ne y y' }
end Jd

/-! text J2 -/
set_option Elab.async false
set_option linter.all false
set_option maxRecDepth 100000
set_option maxHeartbeats 2000000
namespace Jd
open PySem L2

/-! ### the readings -/
def rE (e : En) (ss : List Slot) (m : Mp) (ss' : List Slot) : TE := fun σ H Q => ∃ F, Fit e ss σ F H ∧ ∀ v F' H', Ex F F' → Fit e ss' σ F' H' → m.p F' v → Q v H'
def rT (e : En) (ss : List Slot) (b : Bool) (ss' : List Slot) : TT := fun σ H Q => ∃ F, Fit e ss σ F H ∧ ∀ F' H', Ex F F' → Fit e ss' σ F' H' → Q b H'
def rA (e : En) (ss : List Slot) (ms : List Mp) (ss' : List Slot) : TA := fun σ H Q => ∃ F, Fit e ss σ F H ∧ ∀ vs F' H', Ex F F' → Fit e ss' σ F' H' → allP F' ms vs → Q vs H'
def rO (e : En) (ss : List Slot) (m : Mo) (ss' : List Slot) : TE := fun σ H Q => ∃ F, Fit e ss σ F H ∧ ∀ (a : Addr) F' H', Ex F F' → Fit e ss' σ F' H' → Own1 e ss' σ F' H' a m → Q (V.ref a) H'
/-- a list that is read: it stands for good, or in a slot -/
def Pk (ss : List Slot) (σ : St) (F : Hp) (a : Addr) (ms : List Mp) : Prop :=
  (mL ms).p F (.ref a) ∨ ∃ i : Nat, (ss[i]? = some (Slot.own (oL ms)) ∨ ss[i]? = some (Slot.bor a (oL ms))) ∧ σ[i]? = some (some (.ref a))
def rP (e : En) (ss : List Slot) (ms : List Mp) (ss' : List Slot) : TE := fun σ H Q => ∃ F, Fit e ss σ F H ∧ ∀ (a : Addr) F' H', Ex F F' → Fit e ss' σ F' H' → Pk ss' σ F' a ms → Q (V.ref a) H'

abbrev JE (X : Cx) (e : En) (x : Expr) (ss : List Slot) (m : Mp) (ss' : List Slot) : Prop := PE X x (rE e ss m ss')
abbrev JT (X : Cx) (e : En) (x : Expr) (ss : List Slot) (b : Bool) (ss' : List Slot) : Prop := PT X x (rT e ss b ss')
abbrev JW (X : Cx) (e : En) (x : Expr) (ss : List Slot) (b : Bool) (ss' : List Slot) : Prop := PW X x (rT e ss b ss')
abbrev JA (X : Cx) (e : En) (xs : List Expr) (ss : List Slot) (ms : List Mp) (ss' : List Slot) : Prop := PA X xs (rA e ss ms ss')
abbrev JO (X : Cx) (e : En) (x : Expr) (ss : List Slot) (m : Mo) (ss' : List Slot) : Prop := PE X x (rO e ss m ss')
abbrev JP (X : Cx) (e : En) (x : Expr) (ss : List Slot) (ms : List Mp) (ss' : List Slot) : Prop := PE X x (rP e ss ms ss')

variable {X : Cx} {e : En} {ss ss' ss1 ss2 ss3 : List Slot} {σ : St} {F F' H H' : Hp} {a b c x y : Expr} {pos p : Pos} {m n o : Mp}

theorem PE_mono {x : Expr} {t t' : TE} (h : PE X x t) (k : ∀ σ H Q, t' σ H Q → t σ H Q) : PE X x t' := ⟨fun pins s σ H Q I q => h.run pins s σ H Q I (k _ _ _ q)⟩
theorem PT_mono {x : Expr} {t t' : TT} (h : PT X x t) (k : ∀ σ H Q, t' σ H Q → t σ H Q) : PT X x t' := ⟨fun pins s σ H Q I q => h.run pins s σ H Q I (k _ _ _ q)⟩
theorem PW_mono {x : Expr} {t t' : TT} (h : PW X x t) (k : ∀ σ H Q, t' σ H Q → t σ H Q) : PW X x t' := ⟨fun w pins s σ H Q I q => h.run w pins s σ H Q I (k _ _ _ q)⟩
theorem PA_mono {x : List Expr} {t t' : TA} (h : PA X x t) (k : ∀ σ H Q, t' σ H Q → t σ H Q) : PA X x t' := ⟨fun w pins s σ H Q I q => h.run w pins s σ H Q I (k _ _ _ q)⟩
theorem PS_mono {x : Stmt} {t t' : TS} (h : PS X x t) (k : ∀ D σ H, t' D σ H → t D σ H) : PS X x t' := ⟨fun pins s σ H D I q => h.run pins s σ H D I (k _ _ _ q)⟩
theorem PSs_mono {x : List Stmt} {t t' : TS} (h : PSs X x t) (k : ∀ D σ H, t' D σ H → t D σ H) : PSs X x t' := ⟨fun pins s σ H D I q => h.run pins s σ H D I (k _ _ _ q)⟩

theorem Own1.lay (I : Fit e ss σ F H) {p : Addr} {u : HO} {m : Mo} (hp : H p = none) (hm : m.p F p u) : Own1 e ss σ F (upd H p u) p m where
  u := ⟨u, upd_same, hm⟩
  f := I.sub.back hp
  h := by
    cases z : e.h p with
    | none => rfl
    | some o =>
      rcases I.keep p o z with y | ⟨_, y⟩
      · rw [hp] at y; cases y
      · exact absurd hp y
  k := by
    cases z : e.k p with
    | none => rfl
    | some o => have := (I.kept p o z).1; rw [hp] at this; cases this
  ne := fun i n h q => by
    obtain ⟨o, h1, a, u', h2, h3, _⟩ := I.at_ i _ h
    rw [h1] at q
    cases q
    cases h2
    rw [hp] at h3
    cases h3
theorem oL_mL {ms : List Mp} : ∀ (F : Hp) (a : Addr) (u : HO), F a = some u → (oL ms).p F a u → (mL ms).p F (.ref a) := fun F a u h ⟨vs, h1, h2⟩ => ⟨a, vs, rfl, .inl (by rw [h, h1]), h2⟩
theorem oI_mI {C : Addr} {fs : List (Str × Mp)} : ∀ (F : Hp) (a : Addr) (u : HO), F a = some u → (oI C fs).p F a u → (mI C fs).p F (.ref a) := fun F a u h k => ⟨a, u, rfl, h, k⟩
/-- a fresh list is let stand for good -/
theorem je_fz {ms : List Mp} (h : JO X e x ss (oL ms) ss') : JE X e x ss (mL ms) ss' := PE_mono h fun σ H Q ⟨F, I, k⟩ => ⟨F, I, fun a F' H' e1 I1 O => by
  obtain ⟨F2, e2, I2, hn⟩ := O.freeze I1 oL_mL
  exact k _ F2 H' (e1.trans e2) I2 hn⟩
theorem je_fzI {C : Addr} {fs : List (Str × Mp)} (h : JO X e x ss (oI C fs) ss') : JE X e x ss (mI C fs) ss' := PE_mono h fun σ H Q ⟨F, I, k⟩ => ⟨F, I, fun a F' H' e1 I1 O => by
  obtain ⟨F2, e2, I2, hn⟩ := O.freeze I1 oI_mI
  exact k _ F2 H' (e1.trans e2) I2 hn⟩
theorem jp_of {ms : List Mp} (h : JE X e x ss (mL ms) ss') : JP X e x ss ms ss' := PE_mono h fun σ H Q ⟨F, I, k⟩ => ⟨F, I, fun v F' H' e1 I1 hv => by
  obtain ⟨a, vs, rfl, h1, h2⟩ := id hv
  exact k a F' H' e1 I1 (Or.inl hv)⟩
theorem Pk.get {K : PySem.W.Frag} {ad : Addr} {ms : List Mp} (I : Fit e ss σ F H) (h : Pk ss σ F ad ms) : ∃ vs, SqL K H ad vs ∧ allP F ms vs := by
  rcases h with ⟨a', vs, h1, h2, h3⟩ | ⟨i, h1 | h1, h2⟩
  · cases h1
    refine ⟨vs, .inl ?_, h3⟩
    rcases h2 with h2 | ⟨o, h2⟩
    · exact .inl (I.sub _ _ h2)
    · exact .inr ⟨o, I.sub _ _ h2⟩
  · obtain ⟨o, q1, a', u, q2, q3, _, _, _, vs, rfl, q5⟩ := I.at_ i _ h1
    rw [h2] at q1; cases q1; cases q2
    exact ⟨vs, .inl (.inl q3), q5⟩
  · obtain ⟨o, q1, q2, _, _, _, u, q3, _, vs, rfl, q5⟩ := I.at_ i _ h1
    exact ⟨vs, .inl (.inl q3), q5⟩
theorem Pk.ex {ad : Addr} {ms : List Mp} (x : Ex F F') (h : Pk ss σ F ad ms) : Pk ss σ F' ad ms := by
  rcases h with h | h
  · exact .inl ((mL ms).up x h)
  · exact .inr h

/-! ### names, constants -/
theorem je_var {i : Nat} {nm : Str} (h : ss[i]? = some (.val m)) (hN : X.N[i]? = some nm) (hv : Vis X.env.scope nm := by first | exact Or.inl rfl | exact Or.inr (Or.inl rfl) | exact Or.inr (Or.inr rfl)) (hd : (nm == ("__debug__" : Str)) = false := by decide)
    (hcd : (nm == ("__classdict__" : Str)) = false := by decide) : JE X e (.Name nm pos) ss m ss :=
  PE_mono (pe_var (i := i) hN hv hd hcd) fun σ H Q ⟨F, I, k⟩ => by
    obtain ⟨o, h1, v, rfl, hp⟩ := I.at_ i _ h
    exact ⟨v, h1, k v F H Ex.rfl I hp⟩
/-- an own list in a slot, as a value: it stands for good from now on -/
theorem je_varL {i : Nat} {nm : Str} {ms : List Mp} (h : ss[i]? = some (.own (oL ms))) (hN : X.N[i]? = some nm) (hv : Vis X.env.scope nm := by first | exact Or.inl rfl | exact Or.inr (Or.inl rfl) | exact Or.inr (Or.inr rfl)) (hd : (nm == ("__debug__" : Str)) = false := by decide)
    (hcd : (nm == ("__classdict__" : Str)) = false := by decide) : JE X e (.Name nm pos) ss (mL ms) (ss.set i (.val (mL ms))) :=
  PE_mono (pe_var (i := i) hN hv hd hcd) fun σ H Q ⟨F, I, k⟩ => by
    obtain ⟨a, F1, h1, x1, I1, hn⟩ := I.freeze h oL_mL
    exact ⟨_, h1, k _ F1 H x1 I1 hn⟩
theorem jp_own {i : Nat} {nm : Str} {ms : List Mp} (h : ss[i]? = some (.own (oL ms))) (hN : X.N[i]? = some nm) (hv : Vis X.env.scope nm := by first | exact Or.inl rfl | exact Or.inr (Or.inl rfl) | exact Or.inr (Or.inr rfl)) (hd : (nm == ("__debug__" : Str)) = false := by decide)
    (hcd : (nm == ("__classdict__" : Str)) = false := by decide) : JP X e (.Name nm pos) ss ms ss :=
  PE_mono (pe_var (i := i) hN hv hd hcd) fun σ H Q ⟨F, I, k⟩ => by
    obtain ⟨o, h1, a, u, rfl, h2⟩ := I.at_ i _ h
    exact ⟨_, h1, k a F H Ex.rfl I (Or.inr ⟨i, .inl h, h1⟩)⟩
theorem jp_bor {i : Nat} {nm : Str} {ms : List Mp} {ad : Addr} (h : ss[i]? = some (.bor ad (oL ms))) (hN : X.N[i]? = some nm) (hv : Vis X.env.scope nm := by first | exact Or.inl rfl | exact Or.inr (Or.inl rfl) | exact Or.inr (Or.inr rfl)) (hd : (nm == ("__debug__" : Str)) = false := by decide)
    (hcd : (nm == ("__classdict__" : Str)) = false := by decide) : JP X e (.Name nm pos) ss ms ss :=
  PE_mono (pe_var (i := i) hN hv hd hcd) fun σ H Q ⟨F, I, k⟩ => by
    obtain ⟨o, h1, rfl, h2⟩ := I.at_ i _ h
    exact ⟨_, h1, k ad F H Ex.rfl I (Or.inr ⟨i, .inr h, h1⟩)⟩
theorem je_int {i : Int} {j : Nat} : JE X e (.Constant (.int i) j pos) ss (mInt i) ss := PE_mono pe_int fun _ _ _ ⟨F, I, k⟩ => k _ F _ Ex.rfl I rfl
theorem je_bool {b : Bool} {j : Nat} : JE X e (.Constant (.bool b) j pos) ss (mBool b) ss := PE_mono pe_bl fun _ _ _ ⟨F, I, k⟩ => k _ F _ Ex.rfl I rfl
theorem je_none {j : Nat} : JE X e (.Constant .none j pos) ss mNone ss := PE_mono pe_non fun _ _ _ ⟨F, I, k⟩ => k _ F _ Ex.rfl I rfl
theorem je_str {s : Str} {j : Nat} : JE X e (.Constant (.str s) j pos) ss (mStr s) ss := PE_mono pe_str fun _ _ _ ⟨F, I, k⟩ => k _ F _ Ex.rfl I rfl
theorem je_globI {nm : Str} {i : Int} (hm : ∃ t, X.mg nm = some (.int i t)) (hg : Gl X nm := by rfl) (hd : (nm == ("__debug__" : Str)) = false := by decide) : JE X e (.Name nm pos) ss (mInt i) ss := by
  obtain ⟨t, hm⟩ := hm
  exact PE_mono (pe_glob (v := .int i) hg hm ⟨t, rfl⟩ hd) fun _ _ _ ⟨F, I, k⟩ => k _ F _ Ex.rfl I rfl
theorem je_globS {nm : Str} {s : Str} (hm : ∃ t, X.mg nm = some (.str s t)) (hg : Gl X nm := by rfl) (hd : (nm == ("__debug__" : Str)) = false := by decide) : JE X e (.Name nm pos) ss (mStr s) ss := by
  obtain ⟨t, hm⟩ := hm
  exact PE_mono (pe_glob (v := .str s) hg hm ⟨t, rfl⟩ hd) fun _ _ _ ⟨F, I, k⟩ => k _ F _ Ex.rfl I rfl

/-! ### two values -/
/-- the answer of r on such values; the heap as it is -/
def RP (r : R2) (m n o : Mp) : Prop := ∀ (F H : Hp) (x y : V) (Q : VK), Ex F H → m.p F x → n.p F y → (∀ v, o.p F v → Q v H) → r x y H Q
theorem je_op {op : Operator} {r : R2} (ho : OpR X (binaryOp op) r) (hr : RP r m n o) (ha : JE X e a ss m ss1) (hb : JE X e b ss1 n ss2) : JE X e (.BinOp a op b pos) ss o ss2 :=
  PE_mono (pe_op ho ha hb) fun σ H Q ⟨F, I, k⟩ => ⟨F, I, fun x F1 H1 x1 I1 hx => ⟨F1, I1, fun y F2 H2 x2 I2 hy =>
    hr F2 H2 x y Q I2.sub (m.up x2 hx) hy fun v hv => k v F2 H2 (x1.trans x2) I2 hv⟩⟩
theorem je_cmp {op : CmpOp} {r : R2} (ho : OpR X (compareOp op) r) (hr : RP r m n o) (ha : JE X e a ss m ss1) (hb : JE X e b ss1 n ss2) (hm : behindInMarks op b = false) : JE X e (.Compare a [op] [b] pos) ss o ss2 :=
  PE_mono (pe_cmpR ho ha hb hm) fun σ H Q ⟨F, I, k⟩ => ⟨F, I, fun x F1 H1 x1 I1 hx => ⟨F1, I1, fun y F2 H2 x2 I2 hy =>
    hr F2 H2 x y Q I2.sub (m.up x2 hx) hy fun v hv => k v F2 H2 (x1.trans x2) I2 hv⟩⟩
theorem jt_cmp {op : CmpOp} {r : R2} {t : Bool} (ho : OpR X (compareOp op) r) (hr : RP r m n (mBool t)) (ha : JE X e a ss m ss1) (hb : JE X e b ss1 n ss2) (hm : behindInMarks op b = false) : JT X e (.Compare a [op] [b] pos) ss t ss2 :=
  PT_mono (pt_cmpR ho ha hb hm) fun σ H Q ⟨F, I, k⟩ => ⟨F, I, fun x F1 H1 x1 I1 hx => ⟨F1, I1, fun y F2 H2 x2 I2 hy =>
    hr F2 H2 x y _ I2.sub (m.up x2 hx) hy fun v hv => ⟨t, hv, k F2 H2 (x1.trans x2) I2⟩⟩⟩
theorem rp_I0 {g : Int → Int → V} {i j : Int} {o : Mp} (h : ∀ F, o.p F (g i j)) : RP (rI0 g) (mInt i) (mInt j) o := fun F H x y Q _ hx hy q => ⟨i, j, hx, hy, q _ (h F)⟩
theorem rp_I {C : Int → Int → Prop} {g : Int → Int → V} {i j : Int} {o : Mp} (hc : C i j) (h : ∀ F, o.p F (g i j)) : RP (rI C g) (mInt i) (mInt j) o := fun F H x y Q _ hx hy q => ⟨i, j, hx, hy, hc, q _ (h F)⟩
variable {i j : Int}
theorem je_add (ha : JE X e a ss (mInt i) ss1) (hb : JE X e b ss1 (mInt j) ss2) : JE X e (.BinOp a .Add b pos) ss (mInt (i + j)) ss2 := je_op op_add (rp_I0 fun _ => rfl) ha hb
theorem je_sub (ha : JE X e a ss (mInt i) ss1) (hb : JE X e b ss1 (mInt j) ss2) : JE X e (.BinOp a .Sub b pos) ss (mInt (i - j)) ss2 := je_op op_sub (rp_I0 fun _ => rfl) ha hb
theorem je_mul (ha : JE X e a ss (mInt i) ss1) (hb : JE X e b ss1 (mInt j) ss2) (hc : CMul i j) : JE X e (.BinOp a .Mult b pos) ss (mInt (i * j)) ss2 := je_op op_mul (rp_I hc fun _ => rfl) ha hb
theorem je_fdiv (ha : JE X e a ss (mInt i) ss1) (hb : JE X e b ss1 (mInt j) ss2) (hc : CDiv i j) : JE X e (.BinOp a .FloorDiv b pos) ss (mInt (i / j)) ss2 := je_op op_fdiv (rp_I hc fun _ => rfl) ha hb
theorem je_mod (ha : JE X e a ss (mInt i) ss1) (hb : JE X e b ss1 (mInt j) ss2) (hc : 0 < j) : JE X e (.BinOp a .Mod b pos) ss (mInt (i % j)) ss2 := je_op op_mod (rp_I (C := fun _ j => 0 < j) hc fun _ => rfl) ha hb
theorem je_pow (ha : JE X e a ss (mInt i) ss1) (hb : JE X e b ss1 (mInt j) ss2) (hc : CPow i j) : JE X e (.BinOp a .Pow b pos) ss (mInt (i ^ j.toNat)) ss2 := je_op op_pow (rp_I hc fun _ => rfl) ha hb
theorem je_shr (ha : JE X e a ss (mInt i) ss1) (hb : JE X e b ss1 (mInt j) ss2) (hc : 0 ≤ j) : JE X e (.BinOp a .RShift b pos) ss (mInt (i / 2 ^ j.toNat)) ss2 := je_op op_shr (rp_I (C := fun _ j => 0 ≤ j) hc fun _ => rfl) ha hb
theorem je_addS {s t : Str} (ha : JE X e a ss (mStr s) ss1) (hb : JE X e b ss1 (mStr t) ss2) (hl : s.length + t.length ≤ sizeLine) : JE X e (.BinOp a .Add b pos) ss (mStr (s ++ t)) ss2 :=
  je_op op_add_str (fun F H x y Q _ hx hy q => ⟨s, t, hx, hy, hl, q _ rfl⟩) ha hb
theorem je_neg (ha : JE X e a ss (mInt i) ss1) : JE X e (.UnaryOp .USub a pos) ss (mInt (-i)) ss1 :=
  PE_mono (pe_un un_neg ha) fun σ H Q ⟨F, I, k⟩ => ⟨F, I, fun x F1 H1 x1 I1 hx => ⟨i, hx, k _ F1 H1 x1 I1 rfl⟩⟩

/-! ### comparisons -/
def cmpI : CmpOp → Int → Int → Bool
  | .Lt, i, j => decide (i < j)
  | .LtE, i, j => decide (i ≤ j)
  | .Gt, i, j => decide (j < i)
  | .GtE, i, j => decide (j ≤ i)
  | .Eq, i, j => decide (i = j)
  | .NotEq, i, j => !decide (i = j)
  | _, _, _ => false
theorem dI {i j : Int} : decide (V.int i = V.int j) = decide (i = j) := by
  by_cases h : i = j
  · subst h; simp
  · rw [decide_eq_false h, decide_eq_false (fun q => h (V.int.inj q))]
theorem dS {i j : Str} : decide (V.str i = V.str j) = decide (i = j) := by
  by_cases h : i = j
  · subst h; simp
  · rw [decide_eq_false h, decide_eq_false (fun q => h (V.str.inj q))]
theorem dB {i j : Bool} : decide (V.bl i = V.bl j) = decide (i = j) := by
  by_cases h : i = j
  · subst h; simp
  · rw [decide_eq_false h, decide_eq_false (fun q => h (V.bl.inj q))]
theorem jt_lt (ha : JE X e a ss (mInt i) ss1) (hb : JE X e b ss1 (mInt j) ss2) : JT X e (.Compare a [.Lt] [b] pos) ss (decide (i < j)) ss2 := jt_cmp op_lt (rp_I0 fun _ => rfl) ha hb (nomark _)
theorem jt_le (ha : JE X e a ss (mInt i) ss1) (hb : JE X e b ss1 (mInt j) ss2) : JT X e (.Compare a [.LtE] [b] pos) ss (decide (i ≤ j)) ss2 := jt_cmp op_le (rp_I0 fun _ => rfl) ha hb (nomark _)
theorem jt_gt (ha : JE X e a ss (mInt i) ss1) (hb : JE X e b ss1 (mInt j) ss2) : JT X e (.Compare a [.Gt] [b] pos) ss (decide (j < i)) ss2 := jt_cmp op_gt (rp_I0 fun _ => rfl) ha hb (nomark _)
theorem jt_ge (ha : JE X e a ss (mInt i) ss1) (hb : JE X e b ss1 (mInt j) ss2) : JT X e (.Compare a [.GtE] [b] pos) ss (decide (j ≤ i)) ss2 := jt_cmp op_ge (rp_I0 fun _ => rfl) ha hb (nomark _)
theorem jt_eq (ha : JE X e a ss (mInt i) ss1) (hb : JE X e b ss1 (mInt j) ss2) : JT X e (.Compare a [.Eq] [b] pos) ss (decide (i = j)) ss2 := jt_cmp op_eq (fun F H x y Q _ hx hy q => by
  cases hx; cases hy; exact ⟨rfl, q _ (congrArg V.bl dI)⟩) ha hb (nomark _)
theorem jt_ne (ha : JE X e a ss (mInt i) ss1) (hb : JE X e b ss1 (mInt j) ss2) : JT X e (.Compare a [.NotEq] [b] pos) ss (!decide (i = j)) ss2 := jt_cmp op_ne (fun F H x y Q _ hx hy q => by
  cases hx; cases hy; exact ⟨rfl, q _ (congrArg (fun z => V.bl (!z)) dI)⟩) ha hb (nomark _)
theorem rp_eqS {s t : Str} : RP rEq (mStr s) (mStr t) (mBool (decide (s = t))) := fun F H x y Q _ hx hy q => by
  cases hx; cases hy; exact ⟨rfl, q _ (congrArg V.bl dS)⟩
theorem rp_neS {s t : Str} : RP rNe (mStr s) (mStr t) (mBool (!decide (s = t))) := fun F H x y Q _ hx hy q => by
  cases hx; cases hy; exact ⟨rfl, q _ (congrArg (fun z => V.bl (!z)) dS)⟩
theorem jt_eqS {s t : Str} (ha : JE X e a ss (mStr s) ss1) (hb : JE X e b ss1 (mStr t) ss2) : JT X e (.Compare a [.Eq] [b] pos) ss (decide (s = t)) ss2 := jt_cmp op_eq rp_eqS ha hb (nomark _)
theorem jt_neS {s t : Str} (ha : JE X e a ss (mStr s) ss1) (hb : JE X e b ss1 (mStr t) ss2) : JT X e (.Compare a [.NotEq] [b] pos) ss (!decide (s = t)) ss2 := jt_cmp op_ne rp_neS ha hb (nomark _)
theorem je_eqS {s t : Str} (ha : JE X e a ss (mStr s) ss1) (hb : JE X e b ss1 (mStr t) ss2) : JE X e (.Compare a [.Eq] [b] pos) ss (mBool (decide (s = t))) ss2 := je_cmp op_eq rp_eqS ha hb (nomark _)
theorem je_eqI (ha : JE X e a ss (mInt i) ss1) (hb : JE X e b ss1 (mInt j) ss2) : JE X e (.Compare a [.Eq] [b] pos) ss (mBool (decide (i = j))) ss2 := je_cmp op_eq (fun F H x y Q _ hx hy q => by
  cases hx; cases hy; exact ⟨rfl, q _ (congrArg V.bl dI)⟩) ha hb (nomark _)
theorem je_gtI (ha : JE X e a ss (mInt i) ss1) (hb : JE X e b ss1 (mInt j) ss2) : JE X e (.Compare a [.Gt] [b] pos) ss (mBool (decide (j < i))) ss2 := je_cmp op_gt (rp_I0 fun _ => rfl) ha hb (nomark _)
theorem je_ltI (ha : JE X e a ss (mInt i) ss1) (hb : JE X e b ss1 (mInt j) ss2) : JE X e (.Compare a [.Lt] [b] pos) ss (mBool (decide (i < j))) ss2 := je_cmp op_lt (rp_I0 fun _ => rfl) ha hb (nomark _)
theorem jt_eqB {s t : Bool} (ha : JE X e a ss (mBool s) ss1) (hb : JE X e b ss1 (mBool t) ss2) : JT X e (.Compare a [.Eq] [b] pos) ss (decide (s = t)) ss2 := jt_cmp op_eq (fun F H x y Q _ hx hy q => by
  cases hx; cases hy; exact ⟨rfl, q _ (congrArg V.bl dB)⟩) ha hb (nomark _)
theorem jt_neB {s t : Bool} (ha : JE X e a ss (mBool s) ss1) (hb : JE X e b ss1 (mBool t) ss2) : JT X e (.Compare a [.NotEq] [b] pos) ss (!decide (s = t)) ss2 := jt_cmp op_ne (fun F H x y Q _ hx hy q => by
  cases hx; cases hy; exact ⟨rfl, q _ (congrArg (fun z => V.bl (!z)) dB)⟩) ha hb (nomark _)
/-- is None: whether it is, told by t -/
def NonB (m : Mp) (t : Bool) : Prop := ∀ (F : Hp) (v : V), m.p F v → decide (v = .non) = t
theorem nonB_none : NonB mNone true := fun _ _ h => by cases h; rfl
theorem nonB_int : NonB (mInt i) false := fun _ _ h => by cases h; rfl
theorem nonB_str {s : Str} : NonB (mStr s) false := fun _ _ h => by cases h; rfl
theorem nonB_bool {s : Bool} : NonB (mBool s) false := fun _ _ h => by cases h; rfl
theorem nonB_L {ms : List Mp} : NonB (mL ms) false := fun _ _ ⟨_, _, h, _⟩ => by cases h; rfl
theorem nonB_T {ms : List Mp} : NonB (mT ms) false := fun _ _ ⟨_, _, h, _⟩ => by cases h; rfl
theorem nonB_I {C : Addr} {fs : List (Str × Mp)} : NonB (mI C fs) false := fun _ _ ⟨_, _, h, _⟩ => by cases h; rfl
theorem jt_isN {t : Bool} {q : Pos} {kk : Nat} (ha : JE X e a ss m ss1) (h : NonB m t) : JT X e (.Compare a [.Is] [.Constant .none kk q] pos) ss t ss1 :=
  PT_mono (pt_cmp (pc_isN ha)) fun σ H Q ⟨F, I, k⟩ => ⟨F, I, fun x F1 H1 x1 I1 hx => ⟨t, by rw [h F1 x hx], k F1 H1 x1 I1⟩⟩
theorem jt_notN {t : Bool} {q : Pos} {kk : Nat} (ha : JE X e a ss m ss1) (h : NonB m t) : JT X e (.Compare a [.IsNot] [.Constant .none kk q] pos) ss (!t) ss1 :=
  PT_mono (pt_cmp (pc_notN ha)) fun σ H Q ⟨F, I, k⟩ => ⟨F, I, fun x F1 H1 x1 I1 hx => ⟨!t, by rw [h F1 x hx], k F1 H1 x1 I1⟩⟩
theorem je_notN {t : Bool} {q : Pos} {kk : Nat} (ha : JE X e a ss m ss1) (h : NonB m t) : JE X e (.Compare a [.IsNot] [.Constant .none kk q] pos) ss (mBool (!t)) ss1 :=
  PE_mono (pe_cmp (pc_notN ha)) fun σ H Q ⟨F, I, k⟩ => ⟨F, I, fun x F1 H1 x1 I1 hx => k _ F1 H1 x1 I1 (by rw [h F1 x hx]; rfl)⟩
/-- a < b < c, a <= b <= c .. of ints, as a test -/
theorem jt_chain {k : Int} {op op' : CmpOp} {g g' : Int → Int → Bool} (ho : OpR X (compareOp op) (rI0 fun i j => .bl (g i j))) (ho' : OpR X (compareOp op') (rI0 fun i j => .bl (g' i j))) (ha : JE X e a ss (mInt i) ss1) (hb : JE X e b ss1 (mInt j) ss2) (hc : JE X e c ss2 (mInt k) ss2)
    (hm : lastMarks [op, op'] [b, c] = false := by with_unfolding_all rfl) : JT X e (.Compare a [op, op'] [b, c] pos) ss (g i j && g' j k) ss2 :=
  PT_mono (pt_chain ho ho' ha hb hc hm) fun σ H Q ⟨F, I, kk⟩ => ⟨F, I, fun x F1 H1 x1 I1 hx => ⟨F1, I1, fun y F2 H2 x2 I2 hy => by
    cases hx; cases hy
    refine ⟨i, j, rfl, rfl, g i j, rfl, ?_⟩
    cases h : g i j with
    | true => exact iteT ⟨F2, I2, fun z F3 H3 x3 I3 hz => ⟨j, k, rfl, hz, g' j k, rfl, by simpa [h] using kk F3 H3 (x1.trans (x2.trans x3)) I3⟩⟩
    | false => exact iteF ⟨false, rfl, by simpa [h] using kk F2 H2 (x1.trans x2) I2⟩⟩⟩
theorem je_chain {k : Int} {op op' : CmpOp} {g g' : Int → Int → Bool} (ho : OpR X (compareOp op) (rI0 fun i j => .bl (g i j))) (ho' : OpR X (compareOp op') (rI0 fun i j => .bl (g' i j))) (ha : JE X e a ss (mInt i) ss1) (hb : JE X e b ss1 (mInt j) ss2) (hc : JE X e c ss2 (mInt k) ss2)
    (hm : lastMarks [op, op'] [b, c] = false := by with_unfolding_all rfl) : JE X e (.Compare a [op, op'] [b, c] pos) ss (mBool (g i j && g' j k)) ss2 :=
  PE_mono (pe_chain ho ho' ha hb hc hm) fun σ H Q ⟨F, I, kk⟩ => ⟨F, I, fun x F1 H1 x1 I1 hx => ⟨F1, I1, fun y F2 H2 x2 I2 hy => by
    cases hx; cases hy
    refine ⟨i, j, rfl, rfl, g i j, rfl, ?_⟩
    cases h : g i j with
    | true => exact iteT ⟨F2, I2, fun z F3 H3 x3 I3 hz => ⟨j, k, rfl, hz, kk _ F3 H3 (x1.trans (x2.trans x3)) I3 (by simp [mBool, h])⟩⟩
    | false => exact iteF (kk _ F2 H2 (x1.trans x2) I2 (by simp [mBool, h]))⟩⟩

/-! ### and, or, not -/
theorem jw_one {t : Bool} {op : BoolOp} (ha : JT X e a ss t ss1) : JW X e (.BoolOp op [a] pos) ss t ss1 := by
  cases op
  · exact pw_and1 ha
  · exact pw_or1 ha
theorem jw_and {t u : Bool} {r : List Expr} (ha : JT X e a ss t ss1) (hb : t = true → JW X e (.BoolOp .And (b :: r) pos) ss1 u ss1) : JW X e (.BoolOp .And (a :: b :: r) pos) ss (t && u) ss1 := by
  refine ⟨fun whole pins s σ H Q I q => ?_⟩
  cases t with
  | true =>
    exact (PW_mono (pw_and ha (hb rfl)) fun σ H Q ⟨F, I, k⟩ => ⟨F, I, fun F1 H1 x1 I1 => iteT ⟨F1, I1, fun F2 H2 x2 I2 => k F2 H2 (x1.trans x2) I2⟩⟩ : PW X _ (rT e ss (true && u) ss1)).run whole pins s σ H Q I q
  | false =>
    exact (PW_mono (pw_and ha (hb := (⟨fun w pins s σ H Q I q => q.elim⟩ : PW X (.BoolOp .And (b :: r) pos) fun _ _ _ => False)) ) fun σ H Q ⟨F, I, k⟩ => ⟨F, I, fun F1 H1 x1 I1 => iteF (k F1 H1 x1 I1)⟩ : PW X _ (rT e ss (false && u) ss1)).run whole pins s σ H Q I q
theorem jw_or {t u : Bool} {r : List Expr} (ha : JT X e a ss t ss1) (hb : t = false → JW X e (.BoolOp .Or (b :: r) pos) ss1 u ss1) : JW X e (.BoolOp .Or (a :: b :: r) pos) ss (t || u) ss1 := by
  refine ⟨fun whole pins s σ H Q I q => ?_⟩
  cases t with
  | false =>
    exact (PW_mono (pw_or ha (hb rfl)) fun σ H Q ⟨F, I, k⟩ => ⟨F, I, fun F1 H1 x1 I1 => iteF ⟨F1, I1, fun F2 H2 x2 I2 => k F2 H2 (x1.trans x2) I2⟩⟩ : PW X _ (rT e ss (false || u) ss1)).run whole pins s σ H Q I q
  | true =>
    exact (PW_mono (pw_or ha (hb := (⟨fun w pins s σ H Q I q => q.elim⟩ : PW X (.BoolOp .Or (b :: r) pos) fun _ _ _ => False)) ) fun σ H Q ⟨F, I, k⟩ => ⟨F, I, fun F1 H1 x1 I1 => iteT (k F1 H1 x1 I1)⟩ : PW X _ (rT e ss (true || u) ss1)).run whole pins s σ H Q I q
theorem jt_w {t : Bool} (h : JW X e x ss t ss1) : JT X e x ss t ss1 := h.pt
theorem jt_not {t : Bool} (h : JT X e x ss t ss1) : JT X e (.UnaryOp .Not x pos) ss (!t) ss1 := PT_mono (pt_not h) fun σ H Q ⟨F, I, k⟩ => ⟨F, I, fun F1 H1 x1 I1 => k F1 H1 x1 I1⟩
theorem je_not {t : Bool} (h : JE X e x ss (mBool t) ss1) : JE X e (.UnaryOp .Not x pos) ss (mBool (!t)) ss1 := PE_mono (pe_not h) fun σ H Q ⟨F, I, k⟩ => ⟨F, I, fun v F1 H1 x1 I1 hv => ⟨t, hv, k _ F1 H1 x1 I1 rfl⟩⟩
theorem je_one {op : BoolOp} (h : JE X e x ss m ss1) : JE X e (.BoolOp op [x] pos) ss m ss1 := pe_one h
theorem PE_false {x : Expr} : PE X x (fun _ _ _ => False) := ⟨fun _ _ _ _ _ _ q => q.elim⟩
theorem je_and {t u : Bool} {r : List Expr} (ha : JE X e a ss (mBool t) ss1) (hb : t = true → JE X e (.BoolOp .And (b :: r) pos) ss1 (mBool u) ss1) : JE X e (.BoolOp .And (a :: b :: r) pos) ss (mBool (t && u)) ss1 := by
  cases t with
  | true => exact PE_mono (pe_and ha (hb rfl)) fun σ H Q ⟨F, I, k⟩ => ⟨F, I, fun v F1 H1 x1 I1 hv => ⟨true, hv, iteT ⟨F1, I1, fun w F2 H2 x2 I2 hw => k w F2 H2 (x1.trans x2) I2 hw⟩⟩⟩
  | false => exact PE_mono (pe_and ha PE_false) fun σ H Q ⟨F, I, k⟩ => ⟨F, I, fun v F1 H1 x1 I1 hv => ⟨false, hv, iteF (k _ F1 H1 x1 I1 rfl)⟩⟩
theorem jt_val {t : Bool} (h : JE X e x ss (mBool t) ss1) (he : ∀ whole, isTrue x X.env whole = (do let v ← whole; standAt x.pos; holding [v] (truthy v)) := by intro _; rfl) : JT X e x ss t ss1 :=
  PT_mono (pt_val h he) fun σ H Q ⟨F, I, k⟩ => ⟨F, I, fun v F1 H1 x1 I1 hv => ⟨t, hv, k F1 H1 x1 I1⟩⟩

/-! ### arguments, displays -/
theorem ja_nil : JA X e [] ss [] ss := PA_mono pa_nil fun σ H Q ⟨F, I, k⟩ => k _ F H Ex.rfl I trivial
theorem ja_cons {es : List Expr} {ms : List Mp} (ha : JE X e x ss m ss1) (hr : JA X e es ss1 ms ss2) (hs : starEach (x :: es) X.env = (false, eval x X.env) :: starEach es X.env := by rfl) : JA X e (x :: es) ss (m :: ms) ss2 :=
  PA_mono (pa_cons ha hr hs) fun σ H Q ⟨F, I, k⟩ => ⟨F, I, fun v F1 H1 x1 I1 hv => ⟨F1, I1, fun vs F2 H2 x2 I2 hvs => k _ F2 H2 (x1.trans x2) I2 ⟨m.up x2 hv, hvs⟩⟩⟩
theorem je_tup {es : List Expr} {ms : List Mp} {kk : Nat} (h : JA X e es ss ms ss1) (hl : ms.length ≤ 100000) : JE X e (.Tuple es kk pos) ss (mT ms) ss1 :=
  PE_mono (pe_tup h) fun σ H Q ⟨F, I, k⟩ => ⟨F, I, fun vs F1 H1 x1 I1 hv => ⟨Evl.sz_of (by rw [hv.length]; exact hl), fun p hp =>
    k _ _ _ (x1.trans (Ex.new (I1.sub.back hp))) (I1.lay hp) ⟨p, vs, rfl, upd_same, hv.up (Ex.new (I1.sub.back hp))⟩⟩⟩
theorem jo_lst {es : List Expr} {ms : List Mp} (h : JA X e es ss ms ss1) (hl : ms.length ≤ 100000) : JO X e (.List es pos) ss (oL ms) ss1 :=
  PE_mono (pe_lst h) fun σ H Q ⟨F, I, k⟩ => ⟨F, I, fun vs F1 H1 x1 I1 hv => ⟨Evl.sz_of (by rw [hv.length]; exact hl), fun p hp =>
    k p F1 _ x1 (I1.grow hp) (by
      have O := Own1.lay (m := oL ms) (u := .lst vs) I1 hp ⟨vs, rfl, hv⟩
      exact ⟨O.u, O.f, O.h, O.k, O.ne⟩)⟩⟩
end Jd

/-! text J3 -/
set_option Elab.async false
set_option linter.all false
set_option maxRecDepth 100000
set_option maxHeartbeats 2000000
namespace Jd
open PySem L2
variable {X : Cx} {e : En} {ss ss' ss1 ss2 ss3 : List Slot} {σ : St} {F F' H H' : Hp} {a b c x y : Expr} {pos p q : Pos} {m n o : Mp} {i j : Int} {ms : List Mp}

theorem allP.atI {H : Hp} {ms : List Mp} {vs : List V} {i : Int} {m : Mp} (h : allP H ms vs) (e : L2.atI ms i = some m) : ∃ v, L2.atI vs i = some v ∧ m.p H v := by
  obtain ⟨j, h1, h2⟩ := Option.bind_eq_some_iff.mp e
  obtain ⟨v, h3, h4⟩ := h.get h2
  refine ⟨v, ?_, h4⟩
  show (ixN vs.length i).bind (fun j => vs[j]?) = some v
  rw [h.length, h1]
  exact h3
theorem atI_map {α β : Type} {f : α → β} {xs : List α} {i : Int} {x : α} (h : L2.atI xs i = some x) : L2.atI (xs.map f) i = some (f x) := by
  obtain ⟨j, h1, h2⟩ := Option.bind_eq_some_iff.mp h
  show (ixN (xs.map f).length i).bind (fun j => (xs.map f)[j]?) = some (f x)
  rw [List.length_map, h1]
  show (xs.map f)[j]? = some (f x)
  rw [List.getElem?_map, h2]
  rfl
theorem atI_mapN {α β : Type} {f : α → β} {xs : List α} {i : Nat} {x : α} (h : xs[i]? = some x) : L2.atI (xs.map f) (i : Int) = some (f x) := atI_map (atI_nat h)
theorem atI_getD {α β : Type} {f : α → β} {xs : List α} {i : Int} {d : α} (h0 : 0 ≤ i) (h1 : i < xs.length) : L2.atI (xs.map f) i = some (f (xs.getD i.toNat d)) := by
  have l : i.toNat < xs.length := by omega
  have h := atI_mapN (f := f) (xs := xs) (i := i.toNat) (x := xs.getD i.toNat d) (by rw [List.getD_eq_getElem?_getD, List.getElem?_eq_getElem l]; rfl)
  rw [Int.toNat_of_nonneg h0] at h
  exact h
theorem allP_int {H : Hp} : ∀ {ns : List Int} {vs : List V}, allP H (ns.map mInt) vs → vs = ns.map V.int
  | [], [], _ => rfl
  | _ :: _, _ :: _, h => by
    have e := h.1
    cases e
    rw [allP_int h.2]
    rfl
  | [], _ :: _, h => h.elim
  | _ :: _, [], h => h.elim
theorem allP_str {H : Hp} : ∀ {ns : List Str} {vs : List V}, allP H (ns.map mStr) vs → vs = ns.map V.str
  | [], [], _ => rfl
  | _ :: _, _ :: _, h => by
    have e := h.1
    cases e
    rw [allP_str h.2]
    rfl
  | [], _ :: _, h => h.elim
  | _ :: _, [], h => h.elim
theorem SqT_of {K : PySem.W.Frag} {a : Addr} {vs : List V} (I : Fit e ss σ F H) (h : F a = some (.tup vs)) : SqT K H a vs := .inl (.inl (I.sub _ _ h))

/-! ### subscripts -/
theorem je_ix (ha : JP X e a ss ms ss1) (hb : JE X e b ss1 (mInt i) ss1) (h : L2.atI ms i = some m) (hs : PlainIx b := by exact fun _ _ => rfl) : JE X e (.Subscript a b pos) ss m ss1 :=
  PE_mono (pe_ix ix_list ha hb hs) fun σ H Q ⟨F, I, k⟩ => ⟨F, I, fun ad F1 H1 x1 I1 hp => ⟨F1, I1, fun y F2 H2 x2 I2 hy => by
    cases hy
    obtain ⟨vs, hS, hA⟩ := Pk.get (K := X.K) I2 (hp.ex x2)
    obtain ⟨v, hv, hm⟩ := hA.atI h
    exact ⟨ad, vs, i, v, rfl, rfl, hS, hv, k v F2 H2 (x1.trans x2) I2 hm⟩⟩⟩
theorem je_ixT (ha : JE X e a ss (mT ms) ss1) (hb : JE X e b ss1 (mInt i) ss2) (h : L2.atI ms i = some m) (hs : PlainIx b := by exact fun _ _ => rfl) : JE X e (.Subscript a b pos) ss m ss2 :=
  PE_mono (pe_ix ix_tup ha hb hs) fun σ H Q ⟨F, I, k⟩ => ⟨F, I, fun w F1 H1 x1 I1 hp => ⟨F1, I1, fun y F2 H2 x2 I2 hy => by
    cases hy
    obtain ⟨ad, vs, rfl, hT, hA⟩ := (mT ms).up x2 hp
    obtain ⟨v, hv, hm⟩ := hA.atI h
    exact ⟨ad, vs, i, v, rfl, rfl, SqT_of I2 hT, hv, k v F2 H2 (x1.trans x2) I2 hm⟩⟩⟩
theorem je_ixS {z : Str} {cc : Nat} (ha : JE X e a ss (mStr z) ss1) (hb : JE X e b ss1 (mInt i) ss2) (hl : z.length ≤ 100000) (h : L2.atI z.cps.toList i = some cc) (hs : PlainIx b := by exact fun _ _ => rfl) : JE X e (.Subscript a b pos) ss (mStr ⟨#[cc]⟩) ss2 :=
  PE_mono (pe_ix ix_str ha hb hs) fun σ H Q ⟨F, I, k⟩ => ⟨F, I, fun w F1 H1 x1 I1 hp => ⟨F1, I1, fun y F2 H2 x2 I2 hy => by
    cases hy; cases hp
    exact ⟨z, i, cc, rfl, rfl, Evl.sz_of hl, h, k _ F2 H2 (x1.trans x2) I2 rfl⟩⟩⟩
/-- xs[lo:hi] of a list, the whole bounds' values written -/
theorem jo_slL {lo hi : Option Expr} {tl th : TO} {l h : Option Int} {p2 : Pos} (ha : JP X e a ss ms ss1) (hl : PO X lo tl) (hh : PO X hi th)
    (kl : ∀ σ H Q, Q l H → tl σ H Q) (kh : ∀ σ H Q, Q h H → th σ H Q) :
    JO X e (.Subscript a (.Slice lo hi none p2) pos) ss (oL ((ms.drop (HT.sIx ms.length 0 l)).take (HT.sIx ms.length ms.length h - HT.sIx ms.length 0 l))) ss1 :=
  PE_mono (pe_slice sl_list ha hl hh) fun σ H Q ⟨F, I, k⟩ => ⟨F, I, fun ad F1 H1 x1 I1 hp => kl _ _ _ (kh _ _ _ (by
    obtain ⟨vs, hS, hA⟩ := Pk.get (K := X.K) I1 hp
    refine ⟨ad, vs, rfl, hS, fun p hp => k p F1 _ x1 (I1.grow hp) ?_⟩
    refine Own1.lay (u := .lst (cutV vs l h)) I1 hp ⟨_, rfl, ?_⟩
    unfold cutV
    rw [hA.length]
    exact (hA.drop _).take _))⟩
theorem je_slS {h : Expr} {p2 : Pos} {z : Str} (ha : JE X e a ss (mStr z) ss1) (hz : z.length ≤ 100000) (hh : JE X e h ss1 (mInt j) ss2) :
    JE X e (.Subscript a (.Slice none (some h) none p2) pos) ss (mStr (cutS z none (some j))) ss2 :=
  PE_mono (pe_slice sl_str ha po_none (po_some hh)) fun σ H Q ⟨F, I, k⟩ => ⟨F, I, fun w F1 H1 x1 I1 hp =>
    ⟨F1, I1, fun v F2 H2 x2 I2 hv => ⟨j, hv, by cases hp; exact ⟨z, rfl, Evl.sz_of hz, k _ F2 H2 (x1.trans x2) I2 rfl⟩⟩⟩⟩

/-! ### fields -/
theorem zip_lookup {F : Hp} : ∀ {fs : List (Str × Mp)} {vs : List V} {f : Str} {m : Mp}, allP F (fs.map (·.2)) vs → fs.lookup f = some m → ∃ v, ((fs.map (·.1)).zip vs).lookup f = some v ∧ m.p F v
  | [], _, _, _, _, h => by simp at h
  | (g, n) :: r, v :: vs, f, m, hA, h => by
    by_cases hg : (f == g) = true
    · refine ⟨v, ?_, ?_⟩
      · show List.lookup f ((g, v) :: _) = some v
        rw [List.lookup_cons, hg]
      · rw [List.lookup_cons, hg] at h
        cases h
        exact hA.1
    · have hg' : (f == g) = false := by simpa using hg
      rw [List.lookup_cons, hg'] at h
      obtain ⟨u, h1, h2⟩ := zip_lookup (F := F) (fs := r) (vs := vs) hA.2 h
      refine ⟨u, ?_, h2⟩
      show List.lookup f ((g, v) :: _) = some u
      rw [List.lookup_cons, hg']
      exact h1
  | (g, n) :: r, [], _, _, hA, _ => hA.elim
theorem je_fld {C : Addr} {fs : List (Str × Mp)} {f : Str} (ha : JE X e a ss (mI C fs) ss1) (h : fs.lookup f = some m) (hc : Cls X.K C) (hn : NoAttr X.K C f) (hb : attributeBase a f X.env (eval a X.env) = eval a X.env := by rfl) : JE X e (.Attribute a f pos) ss m ss1 :=
  PE_mono (pe_fld ha hb) fun σ H Q ⟨F, I, k⟩ => ⟨F, I, fun w F1 H1 x1 I1 hw => by
    obtain ⟨ad, ob, rfl, h1, dx, vs, rfl, h2⟩ := hw
    obtain ⟨v, h3, h4⟩ := zip_lookup h2 h
    exact ⟨ad, C, dx, _, v, rfl, I1.sub _ _ h1, hc, hn, h3, k v F1 H1 x1 I1 h4⟩⟩
/-- self.f, self an instance that is being made -/
theorem je_fldB {C ad : Addr} {fs : List (Str × Mp)} {f nm : Str} {i : Nat} (hs : ss[i]? = some (.bor ad (oI C fs))) (h : fs.lookup f = some m) (hc : Cls X.K C) (hn : NoAttr X.K C f) (hN : X.N[i]? = some nm) (hv : Vis X.env.scope nm := by first | exact Or.inl rfl | exact Or.inr (Or.inl rfl) | exact Or.inr (Or.inr rfl))
    (hd : (nm == ("__debug__" : Str)) = false := by decide) (hcd : (nm == ("__classdict__" : Str)) = false := by decide) (hb : attributeBase (.Name nm p) f X.env (eval (.Name nm p) X.env) = eval (.Name nm p) X.env := by rfl) : JE X e (.Attribute (.Name nm p) f pos) ss m ss :=
  PE_mono (pe_fld (pe_var (i := i) hN hv hd hcd) hb) fun σ H Q ⟨F, I, k⟩ => by
    obtain ⟨o, h1, rfl, _, _, _, u, h3, _, dx, vs, rfl, h2⟩ := I.at_ i _ hs
    obtain ⟨v, h4, h5⟩ := zip_lookup h2 h
    exact ⟨_, h1, ad, C, dx, _, v, rfl, h3, hc, hn, h4, k v F H Ex.rfl I h5⟩

/-! ### built-in functions -/
theorem ja1 (ha : JE X e a ss m ss1) (hs : starEach [a] X.env = (false, eval a X.env) :: starEach [] X.env := by rfl) : JA X e [a] ss [m] ss1 := ja_cons ha ja_nil hs
theorem je_lenL (ha : JP X e a ss ms ss1) (hm : X.mg "len" = none) (hg : Gl X "len" := by rfl) (hs : starEach [a] X.env = (false, eval a X.env) :: starEach [] X.env := by rfl) (hpl : (backTo pos (starEach [] X.env)).any (·.1) = false := by rfl) :
    JE X e (.Call (.Name "len" p) [a] [] pos) ss (mInt (ms.length : Int)) ss1 :=
  PE_mono (pe_callB call_len hg hm PySem.boot_len (pa_cons ha pa_nil hs) (by decide) (by decide) hs hpl) fun σ H Q ⟨F, I, k⟩ => ⟨F, I, fun ad F1 H1 x1 I1 hp => by
    obtain ⟨vs, hS, hA⟩ := Pk.get (K := X.K) I1 hp
    refine ⟨_, vs.length, rfl, Or.inl ⟨vs, hS, rfl⟩, k _ F1 H1 x1 I1 ?_⟩
    rw [hA.length]
    rfl⟩
theorem je_lenT (ha : JE X e a ss (mT ms) ss1) (hm : X.mg "len" = none) (hg : Gl X "len" := by rfl) (hs : starEach [a] X.env = (false, eval a X.env) :: starEach [] X.env := by rfl) (hpl : (backTo pos (starEach [] X.env)).any (·.1) = false := by rfl) :
    JE X e (.Call (.Name "len" p) [a] [] pos) ss (mInt (ms.length : Int)) ss1 :=
  PE_mono (pe_callB call_len hg hm PySem.boot_len (pa_cons ha pa_nil hs) (by decide) (by decide) hs hpl) fun σ H Q ⟨F, I, k⟩ => ⟨F, I, fun w F1 H1 x1 I1 hp => by
    obtain ⟨ad, vs, rfl, hT, hA⟩ := hp
    refine ⟨_, vs.length, rfl, Or.inr ⟨vs, SqT_of I1 hT, rfl⟩, k _ F1 H1 x1 I1 ?_⟩
    rw [hA.length]
    rfl⟩
theorem je_lenS {z : Str} (ha : JE X e a ss (mStr z) ss1) (hz : z.length ≤ 100000) (hm : X.mg "len" = none) (hg : Gl X "len" := by rfl) (hs : starEach [a] X.env = (false, eval a X.env) :: starEach [] X.env := by rfl) (hpl : (backTo pos (starEach [] X.env)).any (·.1) = false := by rfl) :
    JE X e (.Call (.Name "len" p) [a] [] pos) ss (mInt (z.length : Int)) ss1 :=
  PE_mono (pe_callB call_len hg hm PySem.boot_len (pa_cons ha pa_nil hs) (by decide) (by decide) hs hpl) fun σ H Q ⟨F, I, k⟩ => ⟨F, I, fun w F1 H1 x1 I1 hp => by
    cases hp
    exact ⟨_, z.length, rfl, ⟨Evl.sz_of hz, rfl⟩, k _ F1 H1 x1 I1 rfl⟩⟩
def minL : List Int → Int
  | [] => 0
  | [x] => x
  | x :: y :: r => min x (minL (y :: r))
theorem minL_spec : ∀ {ns : List Int}, ns ≠ [] → minL ns ∈ ns ∧ ∀ y ∈ ns, minL ns ≤ y
  | [], h => absurd rfl h
  | [x], _ => ⟨List.mem_cons_self, fun y h => by rw [List.mem_singleton] at h; rw [h]; exact Int.le_refl _⟩
  | x :: y :: r, _ => by
    have ih := minL_spec (ns := y :: r) (by simp)
    show min x (minL (y :: r)) ∈ _ ∧ _
    refine ⟨?_, fun z hz => ?_⟩
    · by_cases h : x ≤ minL (y :: r)
      · rw [Int.min_eq_left h]; exact List.mem_cons_self
      · rw [Int.min_eq_right (by omega)]; exact List.mem_cons_of_mem _ ih.1
    · rcases List.mem_cons.mp hz with rfl | hz
      · exact Int.min_le_left _ _
      · exact Int.le_trans (Int.min_le_right _ _) (ih.2 z hz)
theorem minL_eq {ns : List Int} {m : Int} (h1 : m ∈ ns) (h2 : ∀ y ∈ ns, m ≤ y) : m = minL ns := by
  have hne : ns ≠ [] := fun h => by rw [h] at h1; cases h1
  have s := minL_spec hne
  exact Int.le_antisymm (h2 _ s.1) (s.2 _ h1)
theorem je_min {ns : List Int} (ha : JP X e a ss (ns.map mInt) ss1) (hne : ns ≠ []) (hm : X.mg "min" = none) (hc : X.calm = true := by rfl) (hg : Gl X "min" := by rfl) (hs : starEach [a] X.env = (false, eval a X.env) :: starEach [] X.env := by rfl) (hpl : (backTo pos (starEach [] X.env)).any (·.1) = false := by rfl) :
    JE X e (.Call (.Name "min" p) [a] [] pos) ss (mInt (minL ns)) ss1 :=
  PE_mono (pe_callB (cr_min hc) hg hm (by decide +kernel) (pa_cons ha pa_nil hs) (by decide) (by decide) hs hpl) fun σ H Q ⟨F, I, k⟩ => ⟨F, I, fun ad F1 H1 x1 I1 hp => by
    obtain ⟨vs, hS, hA⟩ := Pk.get (K := X.K) I1 hp
    rw [allP_int hA] at hS
    refine ⟨_, ns, rfl, hS, List.length_pos_iff.mpr hne, fun m h1 h2 => k _ F1 H1 x1 I1 ?_⟩
    rw [minL_eq h1 h2]
    rfl⟩
theorem je_sum {ns : List Int} (ha : JP X e a ss (ns.map mInt) ss1) (hm : X.mg "sum" = none) (hc : X.calm = true := by rfl) (hg : Gl X "sum" := by rfl) (hs : starEach [a] X.env = (false, eval a X.env) :: starEach [] X.env := by rfl) (hpl : (backTo pos (starEach [] X.env)).any (·.1) = false := by rfl) :
    JE X e (.Call (.Name "sum" p) [a] [] pos) ss (mInt ns.sum) ss1 :=
  PE_mono (pe_callB (cr_sum hc) hg hm (by decide +kernel) (pa_cons ha pa_nil hs) (by decide) (by decide) hs hpl) fun σ H Q ⟨F, I, k⟩ => ⟨F, I, fun ad F1 H1 x1 I1 hp => by
    obtain ⟨vs, hS, hA⟩ := Pk.get (K := X.K) I1 hp
    rw [allP_int hA] at hS
    exact ⟨_, ns, rfl, hS, k _ F1 H1 x1 I1 rfl⟩⟩
theorem je_max2 (ha : JE X e a ss (mInt i) ss1) (hb : JE X e b ss1 (mInt j) ss2) (hm : X.mg "max" = none) (hc : X.calm = true := by rfl) (hg : Gl X "max" := by rfl) (hs : starEach [a, b] X.env = (false, eval a X.env) :: starEach [b] X.env := by rfl) (hs2 : starEach [b] X.env = (false, eval b X.env) :: starEach [] X.env := by rfl)
    (hpl : (backTo pos (starEach [b] X.env)).any (·.1) = false := by rfl) : JE X e (.Call (.Name "max" p) [a, b] [] pos) ss (mInt (max i j)) ss2 :=
  PE_mono (pe_callB (call_max2 hc) hg hm (by decide +kernel) (ja_cons ha (ja1 hb hs2) hs) (by decide) (by decide) hs hpl) fun σ H Q ⟨F, I, k⟩ => ⟨F, I, fun vs F1 H1 x1 I1 hp => by
    match vs, hp with
    | [v, w], hp =>
      obtain ⟨h1, h2, _⟩ := hp
      cases h1; cases h2
      refine ⟨i, j, rfl, k _ F1 H1 x1 I1 ?_⟩
      show V.int (if j > i then j else i) = V.int (max i j)
      congr 1
      omega⟩
theorem je_intI (ha : JE X e a ss (mInt i) ss1) (hm : X.mg "int" = none) (hg : Gl X "int" := by rfl) (hs : starEach [a] X.env = (false, eval a X.env) :: starEach [] X.env := by rfl) (hpl : (backTo pos (starEach [] X.env)).any (·.1) = false := by rfl) :
    JE X e (.Call (.Name "int" p) [a] [] pos) ss (mInt i) ss1 :=
  PE_mono (pe_callTy call_int1 hg hm (by decide +kernel) (ja1 ha hs) (by decide) (by decide) hs hpl) fun σ H Q ⟨F, I, k⟩ => ⟨F, I, fun vs F1 H1 x1 I1 hp => by
    match vs, hp with
    | [v], hp =>
      obtain ⟨h1, _⟩ := hp
      cases h1
      exact Or.inl ⟨i, rfl, k _ F1 H1 x1 I1 rfl⟩⟩
theorem je_intB {t : Bool} (ha : JE X e a ss (mBool t) ss1) (hm : X.mg "int" = none) (hg : Gl X "int" := by rfl) (hs : starEach [a] X.env = (false, eval a X.env) :: starEach [] X.env := by rfl) (hpl : (backTo pos (starEach [] X.env)).any (·.1) = false := by rfl) :
    JE X e (.Call (.Name "int" p) [a] [] pos) ss (mInt (if t then 1 else 0)) ss1 :=
  PE_mono (pe_callTy call_int1 hg hm (by decide +kernel) (ja1 ha hs) (by decide) (by decide) hs hpl) fun σ H Q ⟨F, I, k⟩ => ⟨F, I, fun vs F1 H1 x1 I1 hp => by
    match vs, hp with
    | [v], hp =>
      obtain ⟨h1, _⟩ := hp
      cases h1
      exact Or.inr ⟨t, rfl, k _ F1 H1 x1 I1 rfl⟩⟩
theorem je_abs (ha : JE X e a ss (mInt i) ss1) (hm : X.mg "abs" = none) (hg : Gl X "abs" := by rfl) (hs : starEach [a] X.env = (false, eval a X.env) :: starEach [] X.env := by rfl) (hpl : (backTo pos (starEach [] X.env)).any (·.1) = false := by rfl) :
    JE X e (.Call (.Name "abs" p) [a] [] pos) ss (mInt (i.natAbs : Int)) ss1 :=
  PE_mono (pe_callB call_abs hg hm (by decide +kernel) (ja1 ha hs) (by decide) (by decide) hs hpl) fun σ H Q ⟨F, I, k⟩ => ⟨F, I, fun vs F1 H1 x1 I1 hp => by
    match vs, hp with
    | [v], hp =>
      obtain ⟨h1, _⟩ := hp
      cases h1
      refine ⟨i, rfl, k _ F1 H1 x1 I1 ?_⟩
      show V.int (if i < 0 then -i else i) = V.int (i.natAbs : Int)
      congr 1
      omega⟩
/-- tuple(xs) of a list -/
theorem je_tupOf (ha : JP X e a ss ms ss1) (hm : X.mg "tuple" = none) (hg : Gl X "tuple" := by rfl) (hs : starEach [a] X.env = (false, eval a X.env) :: starEach [] X.env := by rfl) (hpl : (backTo pos (starEach [] X.env)).any (·.1) = false := by rfl) :
    JE X e (.Call (.Name "tuple" p) [a] [] pos) ss (mT ms) ss1 :=
  PE_mono (pe_callTy call_tuple_of hg hm (by decide +kernel) (pa_cons ha pa_nil hs) (by decide) (by decide) hs hpl) fun σ H Q ⟨F, I, k⟩ => ⟨F, I, fun ad F1 H1 x1 I1 hp => by
    obtain ⟨vs, hS, hA⟩ := Pk.get (K := X.K) I1 hp
    exact ⟨ad, vs, rfl, Or.inl ⟨hS, fun l hl => k _ _ _ (x1.trans (Ex.new (I1.sub.back hl))) (I1.lay hl) ⟨l, vs, rfl, upd_same, hA.up (Ex.new (I1.sub.back hl))⟩⟩⟩⟩
/-- tuple(t) of a tuple: itself -/
theorem je_tupOfT (ha : JE X e a ss (mT ms) ss1) (hm : X.mg "tuple" = none) (hg : Gl X "tuple" := by rfl) (hs : starEach [a] X.env = (false, eval a X.env) :: starEach [] X.env := by rfl) (hpl : (backTo pos (starEach [] X.env)).any (·.1) = false := by rfl) :
    JE X e (.Call (.Name "tuple" p) [a] [] pos) ss (mT ms) ss1 :=
  PE_mono (pe_callTy call_tuple_of hg hm (by decide +kernel) (pa_cons ha pa_nil hs) (by decide) (by decide) hs hpl) fun σ H Q ⟨F, I, k⟩ => ⟨F, I, fun w F1 H1 x1 I1 hp => by
    obtain ⟨ad, vs, rfl, hT, hA⟩ := id hp
    exact ⟨ad, vs, rfl, Or.inr ⟨SqT_of I1 hT, k _ _ _ x1 I1 hp⟩⟩⟩
theorem jo_listOf (ha : JP X e a ss ms ss1) (hm : X.mg "list" = none) (hg : Gl X "list" := by rfl) (hs : starEach [a] X.env = (false, eval a X.env) :: starEach [] X.env := by rfl) (hpl : (backTo pos (starEach [] X.env)).any (·.1) = false := by rfl) :
    JO X e (.Call (.Name "list" p) [a] [] pos) ss (oL ms) ss1 :=
  PE_mono (pe_callTy call_list_of hg hm (by decide +kernel) (pa_cons ha pa_nil hs) (by decide) (by decide) hs hpl) fun σ H Q ⟨F, I, k⟩ => ⟨F, I, fun ad F1 H1 x1 I1 hp => by
    obtain ⟨vs, hS, hA⟩ := Pk.get (K := X.K) I1 hp
    exact ⟨ad, vs, rfl, .inl hS, fun l hl => k l _ _ x1 (I1.grow hl) (Own1.lay I1 hl ⟨vs, rfl, hA⟩)⟩⟩
theorem jo_listOfT (ha : JE X e a ss (mT ms) ss1) (hm : X.mg "list" = none) (hg : Gl X "list" := by rfl) (hs : starEach [a] X.env = (false, eval a X.env) :: starEach [] X.env := by rfl) (hpl : (backTo pos (starEach [] X.env)).any (·.1) = false := by rfl) :
    JO X e (.Call (.Name "list" p) [a] [] pos) ss (oL ms) ss1 :=
  PE_mono (pe_callTy call_list_of hg hm (by decide +kernel) (pa_cons ha pa_nil hs) (by decide) (by decide) hs hpl) fun σ H Q ⟨F, I, k⟩ => ⟨F, I, fun w F1 H1 x1 I1 hp => by
    obtain ⟨ad, vs, rfl, hT, hA⟩ := id hp
    exact ⟨ad, vs, rfl, .inr (SqT_of I1 hT), fun l hl => k l _ _ x1 (I1.grow hl) (Own1.lay I1 hl ⟨vs, rfl, hA⟩)⟩⟩

/-! ### isinstance -/
/-- the built-in type of all such values -/
def TyM (m : Mp) (t : String) : Prop := ∀ (K : PySem.W.Frag) (F H : Hp) (v : V), Ex F H → m.p F v → TyX K H v (.type t)
theorem tyM_int : TyM (mInt i) "int" := fun _ _ _ _ _ h => by cases h; exact .base (.int _)
theorem tyM_bool {t : Bool} : TyM (mBool t) "bool" := fun _ _ _ _ _ h => by cases h; exact .base (.bl _)
theorem tyM_str {z : Str} : TyM (mStr z) "str" := fun _ _ _ _ _ h => by cases h; exact .base (.str _)
theorem tyM_none : TyM mNone "NoneType" := fun _ _ _ _ _ h => by cases h; exact .base .non
theorem tyM_L : TyM (mL ms) "list" := fun _ _ _ _ x h => by
  obtain ⟨a, vs, rfl, h1, _⟩ := h
  rcases h1 with h1 | ⟨o, h1⟩
  · exact .base (.lst (x _ _ h1))
  · exact .base (.frz (x _ _ h1))
theorem tyM_T : TyM (mT ms) "tuple" := fun _ _ _ _ x h => by
  obtain ⟨a, vs, rfl, h1, _⟩ := h
  exact .base (.tup (x _ _ h1))
theorem je_isi {T t : String} {r : Bool} {nT : Str} (ha : JE X e a ss m ss1) (ht : TyM m t) (hk : kitB t T = some r) (hm : X.mg "isinstance" = none) (hT : X.mg nT = none) (hb : bootBuiltins nT = some (.type T)) (hg : Gl X "isinstance" := by rfl) (hgT : Gl X nT := by rfl) (hn : nT ≠ "__name__" := by decide) (hd : (nT == ("__debug__" : Str)) = false := by decide)
    (hs : starEach [a, .Name nT q] X.env = (false, eval a X.env) :: starEach [.Name nT q] X.env := by rfl) (hs2 : starEach [.Name nT q] X.env = (false, eval (.Name nT q) X.env) :: starEach [] X.env := by rfl)
    (hpl : (backTo pos (starEach [.Name nT q] X.env)).any (·.1) = false := by rfl) : JE X e (.Call (.Name "isinstance" p) [a, .Name nT q] [] pos) ss (mBool r) ss1 :=
  PE_mono (pe_callB call_isi hg hm (by decide +kernel) (pa_cons ha (pa_cons (pe_bltn (v := .ty T) hgT hT hb rfl hn hd) pa_nil hs2) hs) (by decide) (by decide) hs hpl) fun σ H Q ⟨F, I, k⟩ => ⟨F, I, fun v F1 H1 x1 I1 hv =>
    ⟨v, .ty T, .type t, .type T, r, rfl, .ty T, ht X.K F1 H1 v I1.sub hv, kit_ty hk, k _ F1 H1 x1 I1 rfl⟩⟩
theorem je_isi2 {T T2 t : String} {r r2 : Bool} {nT nT2 : Str} {kk : Nat} {q2 q3 : Pos} (ha : JE X e a ss m ss1) (ht : TyM m t) (hk : kitB t T = some r) (hk2 : kitB t T2 = some r2) (hm : X.mg "isinstance" = none) (hT : X.mg nT = none) (hb : bootBuiltins nT = some (.type T)) (hT2 : X.mg nT2 = none) (hb2 : bootBuiltins nT2 = some (.type T2))
    (hg : Gl X "isinstance" := by rfl) (hgT : Gl X nT := by rfl) (hn : nT ≠ "__name__" := by decide) (hd : (nT == ("__debug__" : Str)) = false := by decide) (hgT2 : Gl X nT2 := by rfl) (hn2 : nT2 ≠ "__name__" := by decide) (hd2 : (nT2 == ("__debug__" : Str)) = false := by decide)
    (hs : starEach [a, .Tuple [.Name nT q, .Name nT2 q2] kk q3] X.env = (false, eval a X.env) :: starEach [.Tuple [.Name nT q, .Name nT2 q2] kk q3] X.env := by rfl)
    (hpl : (backTo pos (starEach [.Tuple [.Name nT q, .Name nT2 q2] kk q3] X.env)).any (·.1) = false := by rfl) : JE X e (.Call (.Name "isinstance" p) [a, .Tuple [.Name nT q, .Name nT2 q2] kk q3] [] pos) ss (mBool (r || r2)) ss1 :=
  PE_mono (pe_callB call_isiT hg hm (by decide +kernel) (pa_cons ha (pa_cons (pe_tup (pa_cons (pe_bltn (v := .ty T) hgT hT hb rfl hn hd) (pa_cons (pe_bltn (v := .ty T2) hgT2 hT2 hb2 rfl hn2 hd2) pa_nil))) pa_nil) hs) (by decide) (by decide) hs hpl) fun σ H Q ⟨F, I, k⟩ => ⟨F, I, fun v F1 H1 x1 I1 hv =>
    ⟨by show 2 ≤ sizeLine; decide, fun tp htp => ⟨v, tp, [.ty T, .ty T2], .type t, [.type T, .type T2], r || r2, rfl, upd_same, .cons (.ty T) (.cons (.ty T2) .nil), ht X.K F1 _ v (I1.sub.trans (Ex.new htp)) hv, by
      refine kitAny_cons (kit_ty hk) (fun h => ?_) (fun h => by rw [h]; rfl)
      rw [h]
      exact kitAny_cons (kit_ty hk2) (fun h2 => by rw [h2]; exact kitAny_nil) (fun h2 => by rw [h2]; rfl), k _ F1 _ x1 (I1.grow htp) rfl⟩⟩⟩
end Jd

/-! text J4 -/
set_option Elab.async false
set_option linter.all false
set_option maxRecDepth 100000
set_option maxHeartbeats 2000000
namespace Jd
open PySem L2
variable {X : Cx} {e : En} {ss ss' ss1 ss2 ss3 : List Slot} {σ : St} {F F' H H' : Hp} {a b c x y : Expr} {pos p q : Pos} {m n o : Mp} {i j : Int} {ms : List Mp}

/-! ### statements -/
inductive Res where
  | nx (ss : List Slot)
  | rt (m : Mp) (ss : List Slot)
  | bk (ss : List Slot)
  | ct (ss : List Slot)
def Res.to (e : En) (D : Ends) (F : Hp) : Res → Prop
  | .nx ss' => ∀ σ' F' H', Ex F F' → Fit e ss' σ' F' H' → D.nx σ' H'
  | .rt m ss' => ∀ v σ' F' H', Ex F F' → Fit e ss' σ' F' H' → m.p F' v → D.rt v H'
  | .bk ss' => ∀ σ' F' H', Ex F F' → Fit e ss' σ' F' H' → D.bk σ' H'
  | .ct ss' => ∀ σ' F' H', Ex F F' → Fit e ss' σ' F' H' → D.ct σ' H'
theorem Res.to_ex {r : Res} {D : Ends} (x : Ex F F') (h : r.to e D F) : r.to e D F' := by
  cases r with
  | nx s => exact fun σ' F1 H1 y I => h σ' F1 H1 (x.trans y) I
  | rt m s => exact fun v σ' F1 H1 y I hv => h v σ' F1 H1 (x.trans y) I hv
  | bk s => exact fun σ' F1 H1 y I => h σ' F1 H1 (x.trans y) I
  | ct s => exact fun σ' F1 H1 y I => h σ' F1 H1 (x.trans y) I
def rS (e : En) (ss : List Slot) (r : Res) : TS := fun D σ H => ∃ F, Fit e ss σ F H ∧ r.to e D F
abbrev JS (X : Cx) (e : En) (st : Stmt) (ss : List Slot) (r : Res) : Prop := PS X st (rS e ss r)
abbrev JSs (X : Cx) (e : En) (st : List Stmt) (ss : List Slot) (r : Res) : Prop := PSs X st (rS e ss r)
variable {st : Stmt} {rest body : List Stmt} {r : Res}

theorem js_nil : JSs X e [] ss (.nx ss) := PSs_mono pss_nil fun D σ H ⟨F, I, k⟩ => k σ F H Ex.rfl I
theorem js_one (h : JS X e st ss r) : JSs X e [st] ss r := pss_one h
theorem js_cons (h1 : JS X e st ss (.nx ss1)) (h2 : JSs X e rest ss1 r) : JSs X e (st :: rest) ss r :=
  PSs_mono (pss_cons h1 h2) fun D σ H ⟨F, I, k⟩ => ⟨F, I, fun σ' F' H' x1 I1 => ⟨F', I1, Res.to_ex x1 k⟩⟩
/-- what stands behind a statement that leaves -/
theorem js_rt {s : List Slot} (h : JS X e st ss (.rt m s)) : JSs X e (st :: rest) ss (.rt m s) :=
  PSs_mono (pss_cons h (pss_never (X := X) (sts := rest))) fun D σ H ⟨F, I, k⟩ => ⟨F, I, k⟩
theorem js_bk {s : List Slot} (h : JS X e st ss (.bk s)) : JSs X e (st :: rest) ss (.bk s) :=
  PSs_mono (pss_cons h (pss_never (X := X) (sts := rest))) fun D σ H ⟨F, I, k⟩ => ⟨F, I, k⟩
theorem js_weak (h : JSs X e body ss (.nx ss1)) (l : Le ss1 ss2) : JSs X e body ss (.nx ss2) :=
  PSs_mono h fun D σ H ⟨F, I, k⟩ => ⟨F, I, fun σ' F' H' x1 I1 => k σ' F' H' x1 (I1.weak l)⟩
theorem js_weakS (h : JS X e st ss (.nx ss1)) (l : Le ss1 ss2) : JS X e st ss (.nx ss2) :=
  PS_mono h fun D σ H ⟨F, I, k⟩ => ⟨F, I, fun σ' F' H' x1 I1 => k σ' F' H' x1 (I1.weak l)⟩
theorem js_pre (h : JSs X e body ss1 r) (l : Le ss ss1) : JSs X e body ss r := PSs_mono h fun D σ H ⟨F, I, k⟩ => ⟨F, I.weak l, k⟩
theorem js_if {t : Bool} {A B : List Stmt} (hc : JT X e c ss t ss1) (hA : t = true → JSs X e A ss1 r) (hB : t = false → JSs X e B ss1 r) : JS X e (.If c A B pos) ss r := by
  cases t with
  | true => exact PS_mono (ps_if hc (hA rfl) (pss_never (X := X) (sts := B))) fun D σ H ⟨F, I, k⟩ => ⟨F, I, fun F1 H1 x1 I1 => iteT ⟨F1, I1, Res.to_ex x1 k⟩⟩
  | false => exact PS_mono (ps_if hc (pss_never (X := X) (sts := A)) (hB rfl)) fun D σ H ⟨F, I, k⟩ => ⟨F, I, fun F1 H1 x1 I1 => iteF ⟨F1, I1, Res.to_ex x1 k⟩⟩
theorem js_set {i : Nat} {nm : Str} {pos' : Pos} (he : JE X e x ss m ss1) (hN : X.N.Nodup) (hi : X.N[i]? = some nm) (hx : Loc X.env.scope nm := by first | exact Or.inl rfl | exact Or.inr rfl) (hs : swapsWith x (some (.Name nm pos')) pos.line X.env = pure false := by rfl)
    (hf : X.fn nm = true ∨ X.env.scope.names.lookup nm = some .local := by first | exact .inl rfl | exact .inr rfl | assumption) : JS X e (.Assign [.Name nm pos'] x pos) ss (.nx (ss1.set i (.val m))) :=
  PS_mono (ps_set hN hi hx he hs hf) fun D σ H ⟨F, I, k⟩ => ⟨F, I, fun v F' H' x1 I1 hv => k _ F' H' x1 (I1.setV hv)⟩
theorem js_setO {i : Nat} {nm : Str} {pos' : Pos} {mo : Mo} (he : JO X e x ss mo ss1) (hN : X.N.Nodup) (hi : X.N[i]? = some nm) (hx : Loc X.env.scope nm := by first | exact Or.inl rfl | exact Or.inr rfl) (hs : swapsWith x (some (.Name nm pos')) pos.line X.env = pure false := by rfl)
    (hf : X.fn nm = true ∨ X.env.scope.names.lookup nm = some .local := by first | exact .inl rfl | exact .inr rfl | assumption) : JS X e (.Assign [.Name nm pos'] x pos) ss (.nx (ss1.set i (.own mo))) :=
  PS_mono (ps_set hN hi hx he hs hf) fun D σ H ⟨F, I, k⟩ => ⟨F, I, fun ad F' H' x1 I1 O => k _ F' H' x1 (I1.setO O)⟩
theorem js_ret (he : JE X e x ss m ss1) : JS X e (.Return (some x) pos) ss (.rt m ss1) :=
  PS_mono (ps_ret he) fun D σ H ⟨F, I, k⟩ => ⟨F, I, fun v F' H' x1 I1 hv => k v _ F' H' x1 I1 hv⟩
theorem js_break : JS X e (.Break pos) ss (.bk ss) := PS_mono ps_break fun D σ H ⟨F, I, k⟩ => k _ F H Ex.rfl I
theorem js_expr (he : JE X e x ss m ss1) (hs : swapsWith x none pos.line X.env = pure false := by rfl) : JS X e (.Expr x pos) ss (.nx ss1) :=
  PS_mono (ps_expr he hs) fun D σ H ⟨F, I, k⟩ => ⟨F, I, fun v F' H' x1 I1 hv => k _ F' H' x1 I1⟩

/-! ### targets -/
def rG (e : En) (ss : List Slot) (m : Mp) (ss' : List Slot) : TG := fun v σ H Q => ∃ F, Fit e ss σ F H ∧ m.p F v ∧ ∀ σ' F' H', Ex F F' → Fit e ss' σ' F' H' → Q σ' H'
def rGs (e : En) (ss : List Slot) (ms : List Mp) (ss' : List Slot) : TGs := fun vs σ H Q => ∃ F, Fit e ss σ F H ∧ allP F ms vs ∧ ∀ σ' F' H', Ex F F' → Fit e ss' σ' F' H' → Q σ' H'
abbrev JG (X : Cx) (e : En) (tg : Expr) (m : Mp) (ss ss' : List Slot) : Prop := PG X tg (rG e ss m ss')
abbrev JGs (X : Cx) (e : En) (tgs : List Expr) (ms : List Mp) (ss ss' : List Slot) : Prop := PGs X tgs (rGs e ss ms ss')
theorem PG_mono {tg : Expr} {t t' : TG} (h : PG X tg t) (k : ∀ v σ H Q, t' v σ H Q → t v σ H Q) : PG X tg t' := ⟨fun pins s σ H v u Q I r q => h.run pins s σ H v u Q I r (k _ _ _ _ q)⟩
theorem PGs_mono {tg : List Expr} {t t' : TGs} (h : PGs X tg t) (k : ∀ v σ H Q, t' v σ H Q → t v σ H Q) : PGs X tg t' := ⟨fun pins s σ H v u Q I r q => h.run pins s σ H v u Q I r (k _ _ _ _ q)⟩
theorem jg_name {i : Nat} {nm : Str} (hN : X.N.Nodup) (hi : X.N[i]? = some nm) (hx : Loc X.env.scope nm := by first | exact Or.inl rfl | exact Or.inr rfl) (hf : X.fn nm = true ∨ X.env.scope.names.lookup nm = some .local := by first | exact .inl rfl | exact .inr rfl | assumption) :
    JG X e (.Name nm pos) m ss (ss.set i (.val m)) := PG_mono (pg_name hN hi hx hf) fun v σ H Q ⟨F, I, hv, k⟩ => k _ F H Ex.rfl (I.setV hv)
theorem jgs_nil : JGs X e [] [] ss ss := PGs_mono pgs_nil fun vs σ H Q ⟨F, I, hv, k⟩ => by
  match vs, hv with
  | [], _ => exact ⟨rfl, k _ F H Ex.rfl I⟩
theorem jgs_cons {tg : Expr} {tgs : List Expr} (h1 : JG X e tg m ss ss1) (h2 : JGs X e tgs ms ss1 ss2) (hs : (assignEach (tg :: tgs) X.env).map (·.2) = assign tg X.env :: (assignEach tgs X.env).map (·.2) := by rfl) : JGs X e (tg :: tgs) (m :: ms) ss ss2 :=
  PGs_mono (pgs_cons h1 h2 hs) fun vs σ H Q ⟨F, I, hv, k⟩ => by
    match vs, hv with
    | v :: r, hv => exact ⟨v, r, rfl, F, I, hv.1, fun σ1 F1 H1 x1 I1 => ⟨F1, I1, hv.2.up x1, fun σ2 F2 H2 x2 I2 => k σ2 F2 H2 (x1.trans x2) I2⟩⟩
theorem jg_tup {es : List Expr} {kk : Nat} (h : JGs X e es ms ss ss1) (hl : (assignEach es X.env).length = ms.length := by rfl) (hc : X.calm = true := by rfl) (hst : (assignEach es X.env).findIdx? (·.1) = none := by rfl) : JG X e (.Tuple es kk pos) (mT ms) ss ss1 :=
  PG_mono (pg_tup hc h hl hst) fun v σ H Q ⟨F, I, hv, k⟩ => by
    obtain ⟨ad, vs, rfl, hT, hA⟩ := hv
    exact ⟨ad, vs, rfl, SqT_of I hT, hA.length, F, I, hA, k⟩
theorem js_asg {tg : Expr} (he : JE X e x ss m ss1) (hg : JG X e tg m ss1 ss2) (hs : swapsWithSole [tg] x pos.line X.env = pure false := by rfl) (hw : swappedStores [tg] x X.env = pure none := by rfl)
    (h1 : (assignEach [tg] X.env).map (·.2) = [assign tg X.env] := by rfl) : JS X e (.Assign [tg] x pos) ss (.nx ss2) :=
  PS_mono (ps_asg he hg hs hw h1) fun D σ H ⟨F, I, k⟩ => ⟨F, I, fun v F' H' x1 I1 hv => ⟨F', I1, hv, fun σ2 F2 H2 x2 I2 => k σ2 F2 H2 (x1.trans x2) I2⟩⟩

/-! ### a list of one's own is changed -/
/-- xs.append(v) -/
theorem js_append {i : Nat} {nm : Str} {p1 p2 : Pos} (he : JE X e x ss m ss1) (hs : ss1[i]? = some (.own (oL ms))) (hs0 : ∃ ms0, ss[i]? = some (.own (oL ms0))) (hl : ms.length < 100000) (hN : X.N[i]? = some nm)
    (hv : Vis X.env.scope nm := by first | exact Or.inl rfl | exact Or.inr (Or.inl rfl) | exact Or.inr (Or.inr rfl)) (hd : (nm == ("__debug__" : Str)) = false := by decide) (hcd : (nm == ("__classdict__" : Str)) = false := by decide)
    (h1 : starEach [x] X.env = (false, eval x X.env) :: starEach [] X.env := by rfl) (h2 : attributeBase (.Name nm p) "append" X.env (eval (.Name nm p) X.env) = eval (.Name nm p) X.env := by rfl) (h3 : (p1.endLine == p2.line) = true := by rfl)
    (h4 : (((backTo p2 (starEach [x] X.env)).all fun x => !x.fst) && ((backToKw p2 (keywordEach [] X.env)).all fun x => x.fst.isSome) && decide (([x].length + ([] : List Keyword).length + if ([] : List Keyword).isEmpty = true then 0 else 1) < 30)) = true := by rfl)
    (hsw : swapsWith (.Call (.Attribute (.Name nm p) "append" p1) [x] [] p2) none pos.line X.env = pure false := by rfl) (hpl : (backTo p2 (starEach [] X.env)).any (·.1) = false := by rfl) :
    JS X e (.Expr (.Call (.Attribute (.Name nm p) "append" p1) [x] [] p2) pos) ss (.nx (ss1.set i (.own (oL (ms ++ [m]))))) :=
  PS_mono (ps_expr (pe_bm PySem.F.plainAttrs_list PySem.F.slot_list_append PySem.F.type_list_append mt_append (pe_var (i := i) hN hv hd hcd) (pa_cons he pa_nil h1) (hfew := h4) (hline := h3) (hs := h1) (hbase := h2)) hsw) fun D σ H ⟨F, I, k⟩ => by
    obtain ⟨ms0, hs0⟩ := hs0
    obtain ⟨o, q1, ad, u, rfl, q3, _, _, _, vs, rfl, q5⟩ := I.at_ i _ hs0
    refine ⟨_, q1, Or.inl ⟨rfl, _, .inl (.inl q3)⟩, F, I, fun v F1 H1 x1 I1 hv => ?_⟩
    obtain ⟨o', r1, ad', u', rfl, r3, _, _, _, vs', rfl, r5⟩ := I1.at_ i _ hs
    rw [q1] at r1
    cases r1
    refine ⟨ad, vs', v, rfl, rfl, r3, Evl.sz_lt (by rw [r5.length]; exact hl), k _ F1 _ x1 (I1.write hs q1 ⟨_, rfl, r5.append ⟨hv, trivial⟩⟩)⟩
/-- xs[j] = v -/
theorem js_setI {i : Nat} {nm : Str} {p1 : Pos} {jx : Nat} (he : JE X e x ss m ss1) (hj : JE X e y ss1 (mInt j) ss2) (hs : ss2[i]? = some (.own (oL ms))) (hs0 : ∃ ms0, ss1[i]? = some (.own (oL ms0))) (hl : ixN ms.length j = some jx) (hN : X.N[i]? = some nm)
    (hv : Vis X.env.scope nm := by first | exact Or.inl rfl | exact Or.inr (Or.inl rfl) | exact Or.inr (Or.inr rfl)) (hd : (nm == ("__debug__" : Str)) = false := by decide) (hcd : (nm == ("__classdict__" : Str)) = false := by decide)
    (ha : ∀ v, assign (.Subscript (.Name nm p) y p1) X.env v = (do
      let ov ← holding [v] (eval (.Name nm p) X.env)
      let iv ← holding [v, ov] (eval y X.env)
      standAt p1
      holding [v, ov, iv] (setItem ov iv v)
      release [v, ov, iv] []) := by intro _; rfl)
    (h1 : swapsWithSole [.Subscript (.Name nm p) y p1] x pos.line X.env = pure false := by rfl) (h2 : swappedStores [.Subscript (.Name nm p) y p1] x X.env = pure none := by rfl)
    (h3 : (assignEach [.Subscript (.Name nm p) y p1] X.env).map (·.2) = [assign (.Subscript (.Name nm p) y p1) X.env] := by rfl) :
    JS X e (.Assign [.Subscript (.Name nm p) y p1] x pos) ss (.nx (ss2.set i (.own (oL (ms.set jx m))))) :=
  PS_mono (ps_asg he (pg_sub (pe_var (i := i) hN hv hd hcd) hj set_list ha) h1 h2 h3) fun D σ H ⟨F, I, k⟩ => ⟨F, I, fun v F1 H1 x1 I1 hv => by
    obtain ⟨ms0, hs0⟩ := hs0
    obtain ⟨o, q1, ad, u, rfl, q3, _⟩ := I1.at_ i _ hs0
    refine ⟨_, q1, F1, I1, fun w F2 H2 x2 I2 hw => ?_⟩
    cases hw
    obtain ⟨o', r1, ad', u', rfl, r3, _, _, _, vs', rfl, r5⟩ := I2.at_ i _ hs
    rw [q1] at r1
    cases r1
    exact ⟨ad, vs', j, jx, rfl, rfl, r3, by rw [r5.length]; exact hl, k _ F2 _ (x1.trans x2) (I2.write hs q1 ⟨_, rfl, r5.set (m.up x2 hv) jx⟩)⟩⟩
/-- xs[j] = v where xs is a list that is lent -/
theorem Fit.writeB (I : Fit e ss σ F H) {i : Nat} {m n : Mo} {a : Addr} {w : HO} (h : ss[i]? = some (.bor a m)) (hn : n.p F a w) : Fit e (ss.set i (.bor a n)) σ F (upd H a w) := by
  obtain ⟨o, h1, rfl, hm, hh, hk, u, h2, h3, h6⟩ := I.at_ i _ h
  have st : ∀ b o, b ≠ a → H b = some o → upd H a w b = some o := fun b o z q => by rw [upd_ne z]; exact q
  exact
    { up := I.up
      sub := fun b o q => st b o (fun z => by rw [z, h3] at q; cases q) (I.sub b o q)
      keep := fun b o q => by
        by_cases z : b = a
        · subst z; exact .inr ⟨hm, by rw [upd_same]; exact fun t => by cases t⟩
        · rcases I.keep b o q with y | ⟨y, y'⟩
          · exact .inl (st b o z y)
          · exact .inr ⟨y, by rw [upd_ne z]; exact y'⟩
      new := I.new
      kept := fun b o q => ⟨st b o (fun z => by rw [z, hk] at q; cases q) (I.kept b o q).1, (I.kept b o q).2⟩
      len := by rw [List.length_set]; exact I.len
      at_ := fun j s q => by
        rcases getset q with ⟨z, y, lt⟩ | ⟨z, y⟩
        · subst z; subst y
          exact ⟨_, h1, rfl, hm, hh, hk, w, upd_same, h3, hn⟩
        · obtain ⟨o', g1, g2⟩ := I.at_ j s y
          refine ⟨o', g1, ?_⟩
          cases s with
          | any => trivial
          | val m' => exact g2
          | own m' =>
            obtain ⟨p, u', q1, q2, q3, q4, q5, q6⟩ := g2
            exact ⟨p, u', q1, st p u' (fun w => hh (by rw [← w]; exact q4)) q2, q3, q4, q5, q6⟩
          | bor p m' =>
            obtain ⟨q1, q2, q3, q4, u', q5, q6, q7⟩ := g2
            exact ⟨q1, q2, q3, q4, u', st p u' (fun w => I.bdis i j a p m m' z h y w.symm) q5, q6, q7⟩
      dis := fun x y m' n' ne qa qb => by
        rcases getset qa with ⟨z, w, _⟩ | ⟨z, w⟩
        · cases w
        · rcases getset qb with ⟨z', w', _⟩ | ⟨z', w'⟩
          · cases w'
          · exact I.dis x y m' n' ne w w'
      bdis := fun x y a1 b1 m' n' ne qa qb => by
        rcases getset qa with ⟨z, w, _⟩ | ⟨z, w⟩
        · cases w
          rcases getset qb with ⟨z', w', _⟩ | ⟨z', w'⟩
          · exact absurd (z.symm.trans z') ne
          · subst z; exact I.bdis i y a b1 m n' ne h w'
        · rcases getset qb with ⟨z', w', _⟩ | ⟨z', w'⟩
          · cases w'
            subst z'; exact I.bdis x i a1 a m' m ne w h
          · exact I.bdis x y a1 b1 m' n' ne w w' }
theorem js_setB {i : Nat} {nm : Str} {p1 : Pos} {jx : Nat} {ad : Addr} (he : JE X e x ss m ss1) (hj : JE X e y ss1 (mInt j) ss2) (hs : ss2[i]? = some (.bor ad (oL ms))) (hs0 : ∃ ms0, ss1[i]? = some (.bor ad (oL ms0))) (hl : ixN ms.length j = some jx) (hN : X.N[i]? = some nm)
    (hv : Vis X.env.scope nm := by first | exact Or.inl rfl | exact Or.inr (Or.inl rfl) | exact Or.inr (Or.inr rfl)) (hd : (nm == ("__debug__" : Str)) = false := by decide) (hcd : (nm == ("__classdict__" : Str)) = false := by decide)
    (ha : ∀ v, assign (.Subscript (.Name nm p) y p1) X.env v = (do
      let ov ← holding [v] (eval (.Name nm p) X.env)
      let iv ← holding [v, ov] (eval y X.env)
      standAt p1
      holding [v, ov, iv] (setItem ov iv v)
      release [v, ov, iv] []) := by intro _; rfl)
    (h1 : swapsWithSole [.Subscript (.Name nm p) y p1] x pos.line X.env = pure false := by rfl) (h2 : swappedStores [.Subscript (.Name nm p) y p1] x X.env = pure none := by rfl)
    (h3 : (assignEach [.Subscript (.Name nm p) y p1] X.env).map (·.2) = [assign (.Subscript (.Name nm p) y p1) X.env] := by rfl) :
    JS X e (.Assign [.Subscript (.Name nm p) y p1] x pos) ss (.nx (ss2.set i (.bor ad (oL (ms.set jx m))))) :=
  PS_mono (ps_asg he (pg_sub (pe_var (i := i) hN hv hd hcd) hj set_list ha) h1 h2 h3) fun D σ H ⟨F, I, k⟩ => ⟨F, I, fun v F1 H1 x1 I1 hv => by
    obtain ⟨ms0, hs0⟩ := hs0
    obtain ⟨o, q1, rfl, _⟩ := I1.at_ i _ hs0
    refine ⟨_, q1, F1, I1, fun w F2 H2 x2 I2 hw => ?_⟩
    cases hw
    obtain ⟨o', r1, r2, _, _, _, u', r3, _, vs', rfl, r5⟩ := I2.at_ i _ hs
    exact ⟨ad, vs', j, jx, rfl, rfl, r3, by rw [r5.length]; exact hl, k _ F2 _ (x1.trans x2) (I2.writeB hs ⟨_, rfl, r5.set (m.up x2 hv) jx⟩)⟩⟩
end Jd

/-! text J5 -/
set_option Elab.async false
set_option linter.all false
set_option maxRecDepth 100000
set_option maxHeartbeats 2000000
namespace Jd
open PySem L2
variable {X : Cx} {e : En} {ss ss' ss1 ss2 ss3 : List Slot} {σ : St} {F F' H H' : Hp} {a b c x y : Expr} {pos p q : Pos} {m n o : Mp} {i j : Int} {ms : List Mp} {st : Stmt} {rest body : List Stmt} {r : Res}

/-! ### what is walked -/
/-- J goes N times over a part F of the heap that stands; at turn i it hands out what ys i tells -/
structure Wk (J : It) (N : Nat) (F : Hp) (ys : Nat → Mp) : Prop where
  goes : ∀ i H, i < N → Ex F H → J.go i H
  stops : ∀ H, Ex F H → J.stop N H
  yields : ∀ (i : Nat) (H : Hp) (x : V) (H' : Hp) (e : En) (ss : List Slot) (σ : St) (F1 : Hp), i < N → Ex F F1 → Fit e ss σ F1 H → J.yld i H x H' → ∃ F2, Ex F1 F2 ∧ Fit e ss σ F2 H' ∧ (ys i).p F2 x
  kept : ∀ (i : Nat) (H : Hp) (x : V) (H' : Hp), J.yld i H x H' → Ex H H'
def rI (e : En) (ss : List Slot) (N : Nat) (ys : Nat → Mp) (ss' : List Slot) : TI := fun σ H R => ∃ F, Fit e ss σ F H ∧ ∀ J F' H', Ex F F' → Fit e ss' σ F' H' → Wk J N F' ys → R J H'
abbrev JI (X : Cx) (e : En) (tg it : Expr) (ss : List Slot) (N : Nat) (ys : Nat → Mp) (ss' : List Slot) : Prop := PI X tg it (rI e ss N ys ss')
theorem PI_mono {tg it : Expr} {t t' : TI} (h : PI X tg it t) (k : ∀ σ H R, t' σ H R → t σ H R) : PI X tg it t' := ⟨fun pins s σ H R I q => h.run pins s σ H R I (k _ _ _ q)⟩
theorem SqL.inj {K : PySem.W.Frag} {a : Addr} {xs ys : List V} (h : Rd H a (.lst xs)) (h' : SqL K H a ys) (no : K.lookup a = none ∨ True) : True := trivial
variable {tg it : Expr}
theorem Rd.up {a : Addr} {o : HO} (x : Ex H H') (h : Rd H a o) : Rd H' a o := by
  rcases h with h | ⟨u, h⟩
  · exact .inl (x _ _ h)
  · exact .inr ⟨u, x _ _ h⟩
theorem ji_list (ha : JE X e it ss (mL ms) ss1) : JI X e tg it ss ms.length (fun i => ms.getD i mTrue) ss1 :=
  PI_mono (pi_list ha) fun σ H R ⟨F, I, k⟩ => ⟨F, I, fun v F1 H1 x1 I1 hv => by
    obtain ⟨ad, vs, rfl, h1, h2⟩ := hv
    refine ⟨ad, rfl, ⟨vs, .inl (Rd.up I1.sub h1)⟩, k _ F1 H1 x1 I1 ⟨fun i H hi x => ?_, fun H x => ?_, fun i H w H' e' ss' σ' F2 hi x2 I2 hy => ?_, fun i H w H' hy => by obtain ⟨rfl, _⟩ := hy; exact Ex.rfl⟩⟩
    · obtain ⟨v, h3, h4⟩ := h2.get (i := i) (List.getElem?_eq_getElem hi)
      exact ⟨vs, v, .inl (Rd.up x h1), h3⟩
    · exact ⟨vs, .inl (Rd.up x h1), by rw [h2.length]; exact Nat.le_refl _⟩
    · obtain ⟨rfl, hy⟩ := hy
      have h3 := hy vs (.inl (Rd.up (x2.trans I2.sub) h1))
      obtain ⟨v, h4, h5⟩ := h2.get (i := i) (List.getElem?_eq_getElem hi)
      rw [h3] at h4
      cases h4
      refine ⟨F2, Ex.rfl, I2, ?_⟩
      show (ms.getD i mTrue).p F2 w
      rw [List.getD_eq_getElem?_getD, List.getElem?_eq_getElem hi]
      exact Mp.up _ x2 h5⟩
theorem ji_tup (ha : JE X e it ss (mT ms) ss1) : JI X e tg it ss ms.length (fun i => ms.getD i mTrue) ss1 :=
  PI_mono (pi_tup ha) fun σ H R ⟨F, I, k⟩ => ⟨F, I, fun v F1 H1 x1 I1 hv => by
    obtain ⟨ad, vs, rfl, h1, h2⟩ := hv
    refine ⟨ad, rfl, ⟨vs, SqT_of I1 h1⟩, k _ F1 H1 x1 I1 ⟨fun i H hi x => ?_, fun H x => ?_, fun i H w H' e' ss' σ' F2 hi x2 I2 hy => ?_, fun i H w H' hy => by obtain ⟨rfl, _⟩ := hy; exact Ex.rfl⟩⟩
    · obtain ⟨v, h3, h4⟩ := h2.get (i := i) (List.getElem?_eq_getElem hi)
      exact ⟨vs, v, .inl (.inl (x _ _ h1)), h3⟩
    · exact ⟨vs, .inl (.inl (x _ _ h1)), by rw [h2.length]; exact Nat.le_refl _⟩
    · obtain ⟨rfl, hy⟩ := hy
      have h3 := hy vs (.inl (.inl (I2.sub _ _ (x2 _ _ h1))))
      obtain ⟨v, h4, h5⟩ := h2.get (i := i) (List.getElem?_eq_getElem hi)
      rw [h3] at h4
      cases h4
      refine ⟨F2, Ex.rfl, I2, ?_⟩
      show (ms.getD i mTrue).p F2 w
      rw [List.getD_eq_getElem?_getD, List.getElem?_eq_getElem hi]
      exact Mp.up _ x2 h5⟩
theorem ji_str {z : Str} (ha : JE X e it ss (mStr z) ss1) : JI X e tg it ss z.cps.size (fun i => mStr ⟨#[z.cps.getD i 0]⟩) ss1 :=
  PI_mono (pi_str ha) fun σ H R ⟨F, I, k⟩ => ⟨F, I, fun v F1 H1 x1 I1 hv => by
    cases hv
    refine ⟨z, rfl, k _ F1 H1 x1 I1 ⟨fun i H hi x => hi, fun H x => Nat.le_refl _, fun i H w H' e' ss' σ' F2 hi x2 I2 hy => ?_, fun i H w H' hy => by obtain ⟨rfl, _⟩ := hy; exact Ex.rfl⟩⟩
    obtain ⟨rfl, cc, h1, rfl⟩ := hy
    refine ⟨F2, Ex.rfl, I2, ?_⟩
    show V.str _ = V.str _
    rw [Array.getD_eq_getD_getElem?, h1]
    rfl⟩
theorem ji_range1 {p pos : Pos} (ha : JE X e a ss (mInt i) ss1) (hi : i ≤ 100000) (h0 : -100000 ≤ i) (hm : X.mg "range" = none) (hg : Gl X "range" := by rfl) (hs : starEach [a] X.env = [(false, eval a X.env)] := by rfl) : JI X e tg (.Call (.Name "range" p) [a] [] pos) ss i.toNat (fun k => mInt (k : Int)) ss1 :=
  PI_mono (pi_range1 hg hm (ja1 ha hs) hs) fun σ H R ⟨F, I, k⟩ => ⟨F, I, fun vs F1 H1 x1 I1 hv => by
    match vs, hv with
    | [v], hv =>
      obtain ⟨hv, _⟩ := hv
      cases hv
      refine ⟨i, rfl, by omega, by omega, k _ F1 H1 x1 I1 ⟨fun i H hi x => hi, fun H x => Nat.le_refl _, fun i H w H' e' ss' σ' F2 hi x2 I2 hy => ?_, fun i H w H' hy => by obtain ⟨rfl, _⟩ := hy; exact Ex.rfl⟩⟩
      obtain ⟨rfl, rfl⟩ := hy
      refine ⟨F2, Ex.rfl, I2, ?_⟩
      show V.int _ = V.int _
      rw [Int.zero_add]⟩
theorem ji_range2 {p pos : Pos} (ha : JE X e a ss (mInt i) ss1) (hb : JE X e b ss1 (mInt j) ss2) (hi : i ≤ 100000) (h0 : -100000 ≤ i) (hj : j ≤ 100000) (hj0 : -100000 ≤ j) (hm : X.mg "range" = none) (hg : Gl X "range" := by rfl) (hs : starEach [a, b] X.env = [(false, eval a X.env), (false, eval b X.env)] := by rfl) (hs2 : starEach [b] X.env = [(false, eval b X.env)] := by rfl)
    (hs3 : starEach [a, b] X.env = (false, eval a X.env) :: starEach [b] X.env := by rfl) : JI X e tg (.Call (.Name "range" p) [a, b] [] pos) ss (j - i).toNat (fun k => mInt (i + (k : Int))) ss2 :=
  PI_mono (pi_range2 hg hm (ja_cons ha (ja1 hb hs2) hs3) hs hs2) fun σ H R ⟨F, I, k⟩ => ⟨F, I, fun vs F1 H1 x1 I1 hv => by
    match vs, hv with
    | [v, w], hv =>
      obtain ⟨hv, hw, _⟩ := hv
      cases hv; cases hw
      refine ⟨i, j, rfl, ⟨by omega, by omega, by omega, by omega⟩, k _ F1 H1 x1 I1 ⟨fun i H hi x => hi, fun H x => Nat.le_refl _, fun i H w H' e' ss' σ' F2 hi x2 I2 hy => ?_, fun i H w H' hy => by obtain ⟨rfl, _⟩ := hy; exact Ex.rfl⟩⟩
      obtain ⟨rfl, rfl⟩ := hy
      exact ⟨F2, Ex.rfl, I2, rfl⟩⟩

/-! ### for -/
theorem PG_any {ι : Type} {tg : Expr} {t : ι → TG} (h : ∀ i, PG X tg (t i)) : PG X tg (fun v σ H Q => ∃ i, t i v σ H Q) := ⟨fun pins s σ H v u Q I r ⟨i, q⟩ => (h i).run pins s σ H v u Q I r q⟩
theorem PSs_any {ι : Type} {sts : List Stmt} {t : ι → TS} (h : ∀ i, PSs X sts (t i)) : PSs X sts (fun D σ H => ∃ i, t i D σ H) := ⟨fun pins s σ H D I ⟨i, q⟩ => (h i).run pins s σ H D I q⟩
/-- how a loop's last turn leaves -/
inductive Leaves : Res → Res → Prop where
  | rt {m : Mp} {s : List Slot} : Leaves (.rt m s) (.rt m s)
  | bk {s : List Slot} : Leaves (.bk s) (.nx s)
inductive Goes : Res → List Slot → Prop where
  | nx {s t : List Slot} (l : Le s t) : Goes (.nx s) t
  | ct {s t : List Slot} (l : Le s t) : Goes (.ct s) t
theorem js_for {N k : Nat} {ys : Nat → Mp} {P B : Nat → List Slot} {rs : Nat → Res} (hi : JI X e tg it ss N ys ss1) (h0 : Le ss1 (P 0)) (kN : k ≤ N)
    (hg : ∀ i, i < N → i ≤ k → JG X e tg (ys i) (P i) (B i)) (hb : ∀ i, i < N → i ≤ k → JSs X e body (B i) (rs i)) (hrs : ∀ i, i < k → Goes (rs i) (P (i + 1)))
    (hend : (k = N ∧ r = .nx (P N)) ∨ (k < N ∧ Leaves (rs k) r)) (hp : PassesOwn (model X.prog X.w) X.A X.env X.xe) (hc : X.calm = true := by rfl)
    (hs : ∀ x, foldedSetIterable it X.env x = pure x := by intro _; rfl) : JS X e (.For tg it body [] pos) ss r := by
  have G : PG X tg (fun v σ H Q => ∃ i : { i // i < N ∧ i ≤ k }, rG e (P i.1) (ys i.1) (B i.1) v σ H Q) := PG_any fun i => hg i.1 i.2.1 i.2.2
  have S : PSs X body (fun D σ H => ∃ i : { i // i < N ∧ i ≤ k }, rS e (B i.1) (rs i.1) D σ H) := PSs_any fun i => hb i.1 i.2.1 i.2.2
  refine PS_mono (ps_for hp hc hi G S hs) fun D σ H ⟨F, I, K⟩ => ⟨F, I, fun J F1 H1 x1 I1 w => ?_⟩
  refine ⟨fun i m σ' H' => m = N - i ∧ i ≤ k ∧ ∃ F2, Ex F1 F2 ∧ Fit e (P i) σ' F2 H', ⟨N, rfl, Nat.zero_le _, F1, Ex.rfl, I1.weak h0⟩, fun i m σ' H' hW => ?_⟩
  obtain ⟨rfl, ik, F2, x2, I2⟩ := hW
  by_cases hiN : i < N
  · refine .inr ⟨w.goes i H' hiN (x2.trans I2.sub), ?_⟩
    by_cases hik : i < k
    · refine ⟨fun σ3 H3 => ∃ F3, Ex F1 F3 ∧ Fit e (P (i + 1)) σ3 F3 H3, fun σ3 H3 hN => ⟨N - (i + 1), by omega, rfl, hik, hN⟩, fun v H3 hy => ?_⟩
      obtain ⟨F3, x3, I3, hv⟩ := w.yields i H' v H3 e _ σ' F2 hiN x2 I2 hy
      refine ⟨⟨i, hiN, ik⟩, F3, I3, hv, fun σ4 F4 H4 x4 I4 => ⟨⟨i, hiN, ik⟩, F4, I4, ?_⟩⟩
      have g := hrs i hik
      show (rs i).to e _ F4
      generalize rs i = ri at g
      cases g with
      | nx l => exact fun σ5 F5 H5 x5 I5 => ⟨F5, x2.trans (x3.trans (x4.trans x5)), I5.weak l⟩
      | ct l => exact fun σ5 F5 H5 x5 I5 => ⟨F5, x2.trans (x3.trans (x4.trans x5)), I5.weak l⟩
    · have ek : i = k := by omega
      subst ek
      rcases hend with ⟨h, _⟩ | ⟨_, hl⟩
      · omega
      refine ⟨fun _ _ => False, fun _ _ h => h.elim, fun v H3 hy => ?_⟩
      obtain ⟨F3, x3, I3, hv⟩ := w.yields i H' v H3 e _ σ' F2 hiN x2 I2 hy
      refine ⟨⟨i, hiN, ik⟩, F3, I3, hv, fun σ4 F4 H4 x4 I4 => ⟨⟨i, hiN, ik⟩, F4, I4, ?_⟩⟩
      have K4 := Res.to_ex (x1.trans (x2.trans (x3.trans x4))) K
      show (rs i).to e _ F4
      generalize rs i = ri at hl
      cases hl with
      | rt => exact K4
      | bk => exact K4
  · have ek : i = k := by omega
    subst ek
    rcases hend with ⟨h, h'⟩ | ⟨h, _⟩
    · subst h; subst h'
      exact .inl ⟨w.stops H' (x2.trans I2.sub), K σ' F2 H' (x1.trans x2) I2⟩
    · omega
/-- a for that no turn leaves -/
theorem js_forN {N : Nat} {ys : Nat → Mp} (P : Nat → List Slot) (hi : JI X e tg it ss N ys ss1) (h0 : Le ss1 (P 0))
    (hb : ∀ i, i < N → ∃ B s, JG X e tg (ys i) (P i) B ∧ JSs X e body B (.nx s) ∧ Le s (P (i + 1))) (hp : PassesOwn (model X.prog X.w) X.A X.env X.xe) (hc : X.calm = true := by rfl)
    (hs : ∀ x, foldedSetIterable it X.env x = pure x := by intro _; rfl) : JS X e (.For tg it body [] pos) ss (.nx (P N)) := by
  have h1 : ∀ i, ∃ B s, i < N → (JG X e tg (ys i) (P i) B ∧ JSs X e body B (.nx s) ∧ Le s (P (i + 1))) := fun i => by
    by_cases hi : i < N
    · obtain ⟨B, s, h⟩ := hb i hi
      exact ⟨B, s, fun _ => h⟩
    · exact ⟨[], [], fun h => absurd h hi⟩
  exact js_for (k := N) (P := P) (B := fun i => (h1 i).choose) (rs := fun i => .nx (h1 i).choose_spec.choose) hi h0 (Nat.le_refl _) (fun i hi _ => ((h1 i).choose_spec.choose_spec hi).1)
    (fun i hi _ => ((h1 i).choose_spec.choose_spec hi).2.1) (fun i hi => .nx ((h1 i).choose_spec.choose_spec hi).2.2) (.inl ⟨rfl, rfl⟩) hp hc hs

/-! ### while -/
theorem PT_any {ι : Type} {x : Expr} {t : ι → TT} (h : ∀ i, PT X x (t i)) : PT X x (fun σ H Q => ∃ i, t i σ H Q) := ⟨fun pins s σ H Q I ⟨i, q⟩ => (h i).run pins s σ H Q I q⟩
theorem js_while {k : Nat} {P : Nat → List Slot} {rs : Nat → Res} {last : Bool} (h0 : Le ss (P 0)) (hc : ∀ i, i < k → JT X e c (P i) true (P i)) (hl : JT X e c (P k) last (P k))
    (hb : ∀ i, i < k → JSs X e body (P i) (rs i)) (hbl : last = true → JSs X e body (P k) (rs k)) (hrs : ∀ i, i < k → Goes (rs i) (P (i + 1)))
    (hend : (last = false ∧ r = .nx (P k)) ∨ (last = true ∧ Leaves (rs k) r)) (hp : PassesOwn (model X.prog X.w) X.A X.env X.xe) : JS X e (.While c body [] pos) ss r := by
  have T : PT X c (fun σ H Q => ∃ i : Option { i // i < k }, (match i with
      | some i => rT e (P i.1) true (P i.1)
      | none => rT e (P k) last (P k)) σ H Q) := PT_any fun i => match i with
      | some i => hc i.1 i.2
      | none => hl
  have S : PSs X body (fun D σ H => ∃ i : Option { i // i < k }, (match i with
      | some i => rS e (P i.1) (rs i.1)
      | none => fun D σ H => last = true ∧ rS e (P k) (rs k) D σ H) D σ H) := PSs_any fun i => match i with
      | some i => hb i.1 i.2
      | none => ⟨fun pins s σ H D I ⟨h, q⟩ => (hbl h).run pins s σ H D I q⟩
  refine PS_mono (ps_while hp T S) fun D σ H ⟨F, I, K⟩ => ?_
  refine ⟨fun m σ' H' => ∃ i, m = k - i ∧ i ≤ k ∧ ∃ F2, Ex F F2 ∧ Fit e (P i) σ' F2 H', ⟨k, 0, rfl, Nat.zero_le _, F, Ex.rfl, I.weak h0⟩, fun m σ' H' hW => ?_⟩
  obtain ⟨i, rfl, ik, F2, x2, I2⟩ := hW
  by_cases hik : i < k
  · refine ⟨some ⟨i, hik⟩, F2, I2, fun F3 H3 x3 I3 => iteT ?_⟩
    refine ⟨fun σ4 H4 => ∃ F4, Ex F F4 ∧ Fit e (P (i + 1)) σ4 F4 H4, fun σ4 H4 ⟨F4, x4, I4⟩ => ⟨k - (i + 1), by omega, i + 1, rfl, hik, F4, x4, I4⟩, some ⟨i, hik⟩, F3, I3, ?_⟩
    have g := hrs i hik
    show (rs i).to e _ F3
    generalize rs i = ri at g
    cases g with
    | nx l => exact fun σ5 F5 H5 x5 I5 => ⟨F5, x2.trans (x3.trans x5), I5.weak l⟩
    | ct l => exact fun σ5 F5 H5 x5 I5 => ⟨F5, x2.trans (x3.trans x5), I5.weak l⟩
  · have ek : i = k := by omega
    subst ek
    refine ⟨none, F2, I2, fun F3 H3 x3 I3 => ?_⟩
    have K3 := Res.to_ex (x2.trans x3) K
    rcases hend with ⟨h1, h2⟩ | ⟨h1, h2⟩
    · subst h1; subst h2
      exact iteF (K3 σ' F3 H3 Ex.rfl I3)
    · subst h1
      refine iteT ⟨fun _ _ => False, fun _ _ h => h.elim, none, rfl, F3, I3, ?_⟩
      show (rs i).to e _ F3
      generalize rs i = ri at h2
      cases h2 with
      | rt => exact K3
      | bk => exact K3
end Jd

/-! text J6 -/
set_option Elab.async false
set_option linter.all false
set_option maxRecDepth 100000
set_option maxHeartbeats 2000000
namespace Jd
open PySem L2
variable {X : Cx} {e : En} {ss ss' ss1 ss2 ss3 : List Slot} {σ : St} {F F' H H' : Hp} {a b c x y : Expr} {pos p q : Pos} {m n o : Mp} {i j : Int} {ms : List Mp} {st : Stmt} {rest body : List Stmt} {r : Res}

/-! ### comprehensions -/
def wipeS (ss : List Slot) : List Nat → List Slot
  | [] => ss
  | v :: vs => (wipeS ss vs).set v .any
theorem wipeS_length (ss : List Slot) : ∀ vs : List Nat, (wipeS ss vs).length = ss.length
  | [] => rfl
  | v :: vs => by
    show ((wipeS ss vs).set v .any).length = _
    rw [List.length_set, wipeS_length ss vs]
theorem Fit.wipe (I : Fit e ss σ F H) : ∀ vs : List Nat, Fit e (wipeS ss vs) (L2.wipe σ vs) F H
  | [] => I
  | v :: vs => (I.wipe vs).setAny
theorem wipeS_get {ss : List Slot} {i : Nat} : ∀ {vs : List Nat}, i ∉ vs → (wipeS ss vs)[i]? = ss[i]?
  | [], _ => rfl
  | v :: vs, h => by
    have h1 : i ≠ v := fun z => h (by rw [z]; exact List.mem_cons_self)
    have h2 : i ∉ vs := fun z => h (List.mem_cons_of_mem _ z)
    show ((wipeS ss vs).set v .any)[i]? = _
    rw [List.getElem?_set_ne (Ne.symm h1), wipeS_get h2]
/-- no slot at vs holds an object of one's own -/
def Soft (ss : List Slot) (vs : List Nat) : Prop := ∀ i ∈ vs, ∀ s, ss[i]? = some s → s = .any ∨ ∃ m, s = .val m
/-- with kept things besides -/
def En.kp (e : En) (k : Addr → Option HO) : En := { e with k := k }
/-- out of a block: the slots at vs are as they were (P0), the others as the block says -/
theorem Fit.unwipe {P0 P1 : List Slot} {F0 H0 : Hp} {vs : List Nat} {k : Addr → Option HO} (I0 : Fit e P0 σ F0 H0) (x : Ex F0 F) (I : Fit (e.kp k) (wipeS P1 vs) (L2.wipe σ vs) F H) (hk : ∀ a o, e.k a = some o → k a = some o)
    (hl : P1.length = P0.length) (hs : ∀ i ∈ vs, P1[i]? = P0[i]?) (soft : Soft P0 vs) : Fit e P1 σ F H := by
  have st : ∀ {s : Slot} {o : Option V}, s.ok (e.kp k) F H o → s.ok e F H o := fun {s o} h => by
    cases s with
    | any => trivial
    | val m => exact h
    | own m =>
      obtain ⟨p, u, q1, q2, q3, q4, q5, q6⟩ := h
      refine ⟨p, u, q1, q2, q3, q4, ?_, q6⟩
      cases z : e.k p with
      | none => rfl
      | some o => have := hk p o z; rw [show k p = none from q5] at this; cases this
    | bor p m =>
      obtain ⟨q1, q2, q3, q4, r⟩ := h
      refine ⟨q1, q2, q3, ?_, r⟩
      cases z : e.k p with
      | none => rfl
      | some o => have := hk p o z; rw [show k p = none from q4] at this; cases this
  have nv : ∀ {i : Nat} {s : Slot}, P1[i]? = some s → i ∈ vs → s = .any ∨ ∃ m, s = .val m := fun {i s} h hv => soft i hv s (by rw [← hs i hv]; exact h)
  exact
    { up := I.up
      sub := I.sub
      keep := I.keep
      new := I.new
      kept := fun a o q => I.kept a o (hk a o q)
      len := by rw [hl]; exact I0.len
      at_ := fun i s h => by
        by_cases hv : i ∈ vs
        · obtain ⟨o, h1, h2⟩ := I0.at_ i s (by rw [← hs i hv]; exact h)
          refine ⟨o, h1, ?_⟩
          rcases nv h hv with z | ⟨m, z⟩
          · subst z; trivial
          · subst z; obtain ⟨v, q1, q2⟩ := h2; exact ⟨v, q1, m.up x q2⟩
        · obtain ⟨o, h1, h2⟩ := I.at_ i s (by rw [wipeS_get hv]; exact h)
          exact ⟨o, by rw [wipe_out hv] at h1; exact h1, st h2⟩
      dis := fun i j m n ne hi hj => by
        have hvi : i ∉ vs := fun hv => by rcases nv hi hv with z | ⟨_, z⟩ <;> cases z
        have hvj : j ∉ vs := fun hv => by rcases nv hj hv with z | ⟨_, z⟩ <;> cases z
        have := I.dis i j m n ne (by rw [wipeS_get hvi]; exact hi) (by rw [wipeS_get hvj]; exact hj)
        rw [wipe_out hvi, wipe_out hvj] at this
        exact this
      bdis := fun i j a b m n ne hi hj => by
        have hvi : i ∉ vs := fun hv => by rcases nv hi hv with z | ⟨_, z⟩ <;> cases z
        have hvj : j ∉ vs := fun hv => by rcases nv hj hv with z | ⟨_, z⟩ <;> cases z
        exact I.bdis i j a b m n ne (by rw [wipeS_get hvi]; exact hi) (by rw [wipeS_get hvj]; exact hj) }
/-- one more thing is kept -/
theorem Fit.keepD (I : Fit e ss σ F H) {D : Addr} {o : HO} (hD : H D = some o) (hF : F D = none) (hk : e.k D = none ∨ e.k D = some o) (hn : ∀ (i : Nat) (m : Mo), ss[i]? = some (.own m) → σ[i]? ≠ some (some (.ref D))) (hb : ∀ (i : Nat) (a : Addr) (m : Mo), ss[i]? = some (.bor a m) → a ≠ D) :
    Fit (e.kp fun b => if b = D then some o else e.k b) ss σ F H :=
  { up := I.up
    sub := I.sub
    keep := I.keep
    new := I.new
    kept := fun a u q => by
      by_cases z : a = D
      · subst z
        have q' : (if a = a then some o else e.k a) = some u := q
        rw [if_pos rfl] at q'
        cases q'
        exact ⟨hD, hF⟩
      · have q' : (if a = D then some o else e.k a) = some u := q
        rw [if_neg z] at q'
        exact I.kept a u q'
    len := I.len
    at_ := fun i s h => by
      obtain ⟨w, h1, h2⟩ := I.at_ i s h
      refine ⟨w, h1, ?_⟩
      cases s with
      | any => trivial
      | val m => exact h2
      | own m =>
        obtain ⟨p, u, q1, q2, q3, q4, q5, q6⟩ := h2
        refine ⟨p, u, q1, q2, q3, q4, ?_, q6⟩
        have z : p ≠ D := fun z => by
          subst z
          exact hn i m h (by rw [h1, q1])
        show (if p = D then some o else e.k p) = none
        rw [if_neg z]; exact q5
      | bor p m =>
        obtain ⟨q1, q2, q3, q4, r⟩ := h2
        refine ⟨q1, q2, q3, ?_, r⟩
        show (if p = D then some o else e.k p) = none
        rw [if_neg (hb i p m h)]; exact q4
    dis := I.dis
    bdis := I.bdis }
/-- what is kept at D is written -/
theorem Fit.rekeep {k : Addr → Option HO} {D : Addr} {o w : HO} (I : Fit (e.kp fun b => if b = D then some o else k b) ss σ F H) (hh : e.h D = none) : Fit (e.kp fun b => if b = D then some w else k b) ss σ F (upd H D w) := by
  obtain ⟨hD, hF⟩ := I.kept D o (by show (if D = D then some o else k D) = some o; rw [if_pos rfl])
  have stt : ∀ b u, b ≠ D → H b = some u → upd H D w b = some u := fun b u z q => by rw [upd_ne z]; exact q
  exact
  { up := I.up
    sub := fun b u q => stt b u (fun z => by rw [z, hF] at q; cases q) (I.sub b u q)
    keep := fun b u q => by
      have z : b ≠ D := fun z => by
        rw [z] at q
        have q2 : e.h D = some u := q
        rw [hh] at q2
        cases q2
      rcases I.keep b u q with y | ⟨y, y'⟩
      · exact .inl (stt b u z y)
      · exact .inr ⟨y, by rw [upd_ne z]; exact y'⟩
    new := I.new
    kept := fun a u q => by
      by_cases z : a = D
      · subst z
        have q' : (if a = a then some w else k a) = some u := q
        rw [if_pos rfl] at q'
        cases q'
        exact ⟨upd_same, hF⟩
      · have q' : (if a = D then some w else k a) = some u := q
        rw [if_neg z] at q'
        obtain ⟨h1, h2⟩ := I.kept a u (by show (if a = D then some o else k a) = some u; rw [if_neg z]; exact q')
        exact ⟨stt a u z h1, h2⟩
    len := I.len
    at_ := fun i s h => by
      obtain ⟨v, h1, h2⟩ := I.at_ i s h
      refine ⟨v, h1, ?_⟩
      have tr : ∀ p, (if p = D then some o else k p) = none → p ≠ D ∧ k p = none := fun p q => by
        by_cases z : p = D
        · rw [if_pos z] at q; cases q
        · rw [if_neg z] at q; exact ⟨z, q⟩
      cases s with
      | any => trivial
      | val m => exact h2
      | own m =>
        obtain ⟨p, u, q1, q2, q3, q4, q5, q6⟩ := h2
        obtain ⟨z, zk⟩ := tr p q5
        exact ⟨p, u, q1, stt p u z q2, q3, q4, by show (if p = D then some w else k p) = none; rw [if_neg z]; exact zk, q6⟩
      | bor p m =>
        obtain ⟨q1, q2, q3, q4, u, q5, q6, q7⟩ := h2
        obtain ⟨z, zk⟩ := tr p q4
        exact ⟨q1, q2, q3, by show (if p = D then some w else k p) = none; rw [if_neg z]; exact zk, u, stt p u z q5, q6, q7⟩
    dis := I.dis
    bdis := I.bdis }
theorem wipe_set {σ : St} {j : Nat} {v : Option V} : ∀ {vs : List Nat}, j ∈ vs → wipe (σ.set j v) vs = wipe σ vs
  | w :: vs, h => by
    by_cases hv : j ∈ vs
    · show (wipe (σ.set j v) vs).set w none = (wipe σ vs).set w none
      rw [wipe_set hv]
    · have e : j = w := by
        rcases List.mem_cons.mp h with z | z
        · exact z
        · exact absurd z hv
      subst e
      have c : ∀ {us : List Nat} {τ : St}, j ∉ us → wipe (τ.set j v) us = (wipe τ us).set j v := by
        intro us
        induction us with
        | nil => intro τ _; rfl
        | cons u us ih =>
          intro τ hh
          have h1 : j ≠ u := fun z => hh (by rw [z]; exact List.mem_cons_self)
          have h2 : j ∉ us := fun z => hh (List.mem_cons_of_mem _ z)
          show (wipe (τ.set j v) us).set u none = ((wipe τ us).set u none).set j v
          rw [ih h2, List.set_comm _ _ h1]
      show (wipe (σ.set j v) vs).set j none = (wipe σ vs).set j none
      rw [c hv, List.set_set]
theorem wipe_comm {σ : St} {u : Nat} : ∀ {vs : List Nat}, wipe (σ.set u none) vs = (wipe σ vs).set u none
  | [] => rfl
  | w :: vs => by
    show (wipe (σ.set u none) vs).set w none = ((wipe σ vs).set w none).set u none
    rw [wipe_comm]
    by_cases h : u = w
    · subst h; rfl
    · exact List.set_comm _ _ h
theorem wipe_idem {σ : St} : ∀ {vs : List Nat}, wipe (wipe σ vs) vs = wipe σ vs
  | [] => rfl
  | w :: vs => by
    show (wipe ((wipe σ vs).set w none) vs).set w none = (wipe σ vs).set w none
    rw [wipe_comm, wipe_idem, List.set_set]
/-- what the block's target does -/
def GOk (g : TG) (vs : List Nat) (m : Mp) (ss ss' : List Slot) : Prop := ∀ (v : V) (σ : St) (e : En) (F H : Hp) (Q : St → Hp → Prop), Fit e ss σ F H → m.p F v → (∀ σ', Fit e ss' σ' F H → wipe σ' vs = wipe σ vs → Q σ' H) → g v σ H Q
theorem gok_name {j : Nat} {vs : List Nat} (hj : j ∈ vs) : GOk (gName j) vs m ss (ss.set j (.val m)) := fun v σ e F H Q I hv k => k _ (I.setV hv) (wipe_set hj)
def gNs : List Nat → TGs
  | [] => gNil
  | j :: js => gCons (gName j) (gNs js)
def setVs : List Slot → List (Nat × Mp) → List Slot
  | ss, [] => ss
  | ss, (j, m) :: r => setVs (ss.set j (.val m)) r
theorem gok_names {vs : List Nat} : ∀ (js : List Nat) (ms : List Mp) (us : List V) (ss : List Slot) (σ : St) (e : En) (F H : Hp) (Q : St → Hp → Prop), (∀ j ∈ js, j ∈ vs) → js.length = ms.length → Fit e ss σ F H → allP F ms us →
    (∀ σ', Fit e (setVs ss (js.zip ms)) σ' F H → wipe σ' vs = wipe σ vs → Q σ' H) → gNs js us σ H Q
  | [], [], [], ss, σ, e, F, H, Q, _, _, I, _, k => ⟨rfl, k σ I rfl⟩
  | j :: js, m :: ms, u :: us, ss, σ, e, F, H, Q, hj, hl, I, hA, k => ⟨u, us, rfl, gok_names js ms us (ss.set j (.val m)) (σ.set j (some u)) e F H Q (fun i h => hj i (List.mem_cons_of_mem _ h)) (Nat.succ.inj hl) (I.setV hA.1) hA.2
      fun σ' I' hw => k σ' I' (hw.trans (wipe_set (hj j List.mem_cons_self)))⟩
  | [], _ :: _, _, _, _, _, _, _, _, _, hl, _, _, _ => nomatch hl
  | _ :: _, [], _, _, _, _, _, _, _, _, hl, _, _, _ => nomatch hl
  | _ :: _, _ :: _, [], _, _, _, _, _, _, _, _, _, hA, _ => hA.elim
  | [], [], _ :: _, _, _, _, _, _, _, _, _, _, hA, _ => hA.elim
theorem gok_tup {K : PySem.W.Frag} {js : List Nat} {vs : List Nat} (hj : ∀ j ∈ js, j ∈ vs) (hl : js.length = ms.length) : GOk (gTup K ms.length (gNs js)) vs (mT ms) ss (setVs ss (js.zip ms)) := fun v σ e F H Q I hv k => by
  obtain ⟨ad, us, rfl, hT, hA⟩ := hv
  exact ⟨ad, us, rfl, SqT_of I hT, hA.length, gok_names js ms us ss σ e F H Q hj hl I hA k⟩
theorem range_map_succ {α : Type} (f : Nat → α) (n : Nat) : (List.range (n + 1)).map f = (List.range n).map f ++ [f n] := by
  rw [List.range_succ, List.map_append]
  rfl
theorem PE_any {ι : Type} {x : Expr} {t : ι → TE} (h : ∀ i, PE X x (t i)) : PE X x (fun σ H Q => ∃ i, t i σ H Q) := ⟨fun pins s σ H Q I ⟨i, q⟩ => (h i).run pins s σ H Q I q⟩
/-- a new list at D is under way -/
theorem lc_start (I : Fit e ss σ F H) {D : Addr} (hD : H D = none) (vs : List Nat) : e.h D = none ∧ e.k D = none ∧ Fit (e.kp fun b => if b = D then some (.lst []) else e.k b) (wipeS ss vs) (L2.wipe σ vs) F (upd H D (.lst [])) := by
  have O := Own1.lay (m := oL []) (u := .lst []) I hD ⟨[], rfl, trivial⟩
  have I2 := (I.grow (o := .lst []) hD).keepD upd_same O.f (.inl O.k) (fun i m h => O.ne i m h) (fun i a m h z => by
    obtain ⟨o, _, _, _, _, _, u, q, _⟩ := I.at_ i _ h
    rw [z, hD] at q
    cases q)
  exact ⟨O.h, O.k, I2.wipe vs⟩
theorem tYes_go {σ : St} {H : Hp} {A R : Hp → Prop} (h : A H) : tYes σ H fun b H3 => if b = true then A H3 else R H3 := by
  show (if true = true then A H else R H)
  rw [if_pos rfl]
  exact h
theorem lc_read {N : Nat} {ys : Nat → Mp} {own : List (Str × Nat)} {g : TG} {Q : VK} (P B B' : Nat → List Slot) (outs : Nat → Mp)
    (hl : ∀ i, (P i).length = (P 0).length) (soft : Soft (P 0) (own.map (·.2))) (hvs : ∀ i, ∀ k ∈ own.map (·.2), (P i)[k]? = (P 0)[k]?)
    (hgs : ∀ i, i < N → GOk g (own.map (·.2)) (ys i) (wipeS (P i) (own.map (·.2))) (B i))
    (hB : ∀ i, i < N → wipeS (B' i) (own.map (·.2)) = wipeS (P (i + 1)) (own.map (·.2))) (hN : N ≤ 100000) (h : rO e ss (oL ((List.range N).map outs)) (P N) σ H Q) :
    tLc (rI e ss N ys (P 0)) g tYes (fun σ H Q => ∃ i : { i // i < N } × (Addr → Option HO), rE (e.kp i.2) (B i.1.1) (outs i.1.1) (B' i.1.1) σ H Q) (own.map (·.2)) σ H Q := by
  obtain ⟨F, I, K⟩ := h
  refine ⟨F, I, fun J F1 H1 x1 I1 w D hD => ?_⟩
  obtain ⟨hh, hk, I2⟩ := lc_start I1 hD (own.map (·.2))
  refine ⟨fun i m H' => m = N - i ∧ i ≤ N ∧ ∃ F2 acc, Ex F1 F2 ∧ allP F2 ((List.range i).map outs) acc ∧ Fit (e.kp fun b => if b = D then some (.lst acc) else e.k b) (wipeS (P i) (own.map (·.2))) (L2.wipe σ (own.map (·.2))) F2 H', ⟨N, rfl, Nat.zero_le _, F1, [], Ex.rfl, trivial, I2⟩, fun i m H' hW => ?_⟩
  obtain ⟨rfl, iN, F2, acc, x2, hA, I3⟩ := hW
  by_cases hiN : i < N
  · refine .inr ⟨w.goes i H' hiN (x2.trans I3.sub), fun H4 => ∃ F4 acc, Ex F1 F4 ∧ allP F4 ((List.range (i + 1)).map outs) acc ∧ Fit (e.kp fun b => if b = D then some (.lst acc) else e.k b) (wipeS (P (i + 1)) (own.map (·.2))) (L2.wipe σ (own.map (·.2))) F4 H4,
      fun H4 h4 => ⟨N - (i + 1), by omega, rfl, hiN, h4⟩, fun v H3 hy => ?_⟩
    obtain ⟨F3, x3, I4, hv⟩ := w.yields i H' v H3 _ _ _ F2 hiN x2 I3 hy
    refine hgs i hiN v _ _ F3 H3 _ I4 hv fun σ' I5 hw => ⟨hw.trans wipe_idem, ?_⟩
    refine tYes_go ?_
    refine ⟨(⟨i, hiN⟩, fun b => if b = D then some (.lst acc) else e.k b), F3, I5, fun y F4 H4 x4 I6 hy4 => ?_⟩
    have hkD := (I6.kept D (.lst acc) (by show (if D = D then some (HO.lst acc) else e.k D) = _; rw [if_pos rfl])).1
    refine ⟨acc, hkD, Evl.sz_lt (by rw [hA.length, List.length_map, List.length_range]; omega), F4, acc ++ [y], x2.trans (x3.trans x4), ?_, ?_⟩
    · rw [range_map_succ]
      exact (hA.up (x3.trans x4)).append ⟨hy4, trivial⟩
    · have I7 := ((I6.rekeep (w := .lst (acc ++ [y])) hh).wipe (own.map (·.2)))
      rw [hB i hiN, hw, wipe_idem] at I7
      exact I7
  · have eN : i = N := by omega
    subst eN
    refine .inl ⟨w.stops H' (x2.trans I3.sub), ?_⟩
    have hkp : ∀ a o, e.k a = some o → (fun b => if b = D then some (HO.lst acc) else e.k b) a = some o := fun a o q => by
      show (if a = D then some (HO.lst acc) else e.k a) = some o
      by_cases z : a = D
      · rw [z, hk] at q; cases q
      · rw [if_neg z]; exact q
    have I8 := Fit.unwipe (P1 := P i) I1 x2 I3 hkp (hl i) (hvs i) soft
    obtain ⟨hD1, hD2⟩ := I3.kept D (.lst acc) (by show (if D = D then some (HO.lst acc) else e.k D) = _; rw [if_pos rfl])
    refine K D F2 H' (x1.trans x2) I8 ⟨⟨_, hD1, acc, rfl, hA⟩, hD2, hh, hk, fun j m hj q => ?_⟩
    by_cases hv : j ∈ own.map (·.2)
    · rcases soft j hv _ (by rw [← hvs i j hv]; exact hj) with z | ⟨_, z⟩ <;> cases z
    · obtain ⟨o, h1, p, u, q1, q2, q3, q4, q5, q6⟩ := I3.at_ j (.own m) (by rw [wipeS_get hv]; exact hj)
      rw [wipe_out hv, q] at h1
      cases h1
      cases q1
      have q5' : (if D = D then some (HO.lst acc) else e.k D) = none := q5
      rw [if_pos rfl] at q5'
      cases q5'
theorem jo_lc {N : Nat} {ys : Nat → Mp} {own : List (Str × Nat)} {elt tg it : Expr} {scope : Scope} {g : TG} (P B B' : Nat → List Slot) (outs : Nat → Mp) (hi : JI X e tg it ss N ys (P 0))
    (hl : ∀ i, (P i).length = (P 0).length) (soft : Soft (P 0) (own.map (·.2))) (hvs : ∀ i, ∀ k ∈ own.map (·.2), (P i)[k]? = (P 0)[k]?)
    (hg : ∀ (s : Shared) (H : Hp) (C : Addr) (cl : List (Str × Addr)) (fp : List Addr), PG (X.blk s H scope (compEnvC scope cl C X.env) fp) tg g)
    (hgs : ∀ i, i < N → GOk g (own.map (·.2)) (ys i) (wipeS (P i) (own.map (·.2))) (B i))
    (he : ∀ i, i < N → ∀ (k : Addr → Option HO) (s : Shared) (H : Hp) (C : Addr) (cl : List (Str × Addr)) (fp : List Addr), JE (X.blk s H scope (compEnvC scope cl C X.env) fp) (e.kp k) elt (B i) (outs i) (B' i))
    (hB : ∀ i, i < N → wipeS (B' i) (own.map (·.2)) = wipeS (P (i + 1)) (own.map (·.2))) (hN : N ≤ 100000)
    (hNd : X.N.Nodup) (ok : BlkOk X.N X.env.scope scope own) (hc : X.calm = true := by rfl) (hs : ∀ x, foldedSetIterable it X.env x = pure x := by intro _; rfl) :
    JO X e (.ListComp elt [⟨tg, it, [], 0⟩] scope pos) ss (oL ((List.range N).map outs)) (P N) := by
  have T : ∀ (s : Shared) (H : Hp) (C : Addr) (cl : List (Str × Addr)) (fp : List Addr), PE (X.blk s H scope (compEnvC scope cl C X.env) fp) elt (fun σ H Q => ∃ i : { i // i < N } × (Addr → Option HO), rE (e.kp i.2) (B i.1.1) (outs i.1.1) (B' i.1.1) σ H Q) :=
    fun s H C cl fp => PE_any fun i => he i.1.1 i.1.2 i.2 s H C cl fp
  refine PE_mono (pe_lc hc hNd hi ok hg (fun _ _ _ _ _ => pts_nil) T hs) fun σ H Q h => lc_read P B B' outs hl soft hvs hgs hB hN h
theorem js_setLc {i : Nat} {nm : Str} {py spos : Pos} {N : Nat} {ys : Nat → Mp} {own : List (Str × Nat)} {elt tg it : Expr} {scope : Scope} {g : TG} (P B B' : Nat → List Slot) (outs : Nat → Mp) (hi : JI X e tg it ss N ys (P 0))
    (hl : ∀ i, (P i).length = (P 0).length) (soft : Soft (P 0) (own.map (·.2))) (hvs : ∀ i, ∀ k ∈ own.map (·.2), (P i)[k]? = (P 0)[k]?)
    (hg : ∀ (s : Shared) (H : Hp) (C : Addr) (cl : List (Str × Addr)) (fp : List Addr), PG (X.blk s H scope (compEnvC scope cl C X.env) fp) tg g)
    (hgs : ∀ i, i < N → GOk g (own.map (·.2)) (ys i) (wipeS (P i) (own.map (·.2))) (B i))
    (he : ∀ i, i < N → ∀ (k : Addr → Option HO) (s : Shared) (H : Hp) (C : Addr) (cl : List (Str × Addr)) (fp : List Addr), JE (X.blk s H scope (compEnvC scope cl C X.env) fp) (e.kp k) elt (B i) (outs i) (B' i))
    (hB : ∀ i, i < N → wipeS (B' i) (own.map (·.2)) = wipeS (P (i + 1)) (own.map (·.2))) (hN : N ≤ 100000)
    (hNd : X.N.Nodup) (ok : BlkOk X.N X.env.scope scope own) (hy : X.N[i]? = some nm) (hyl : X.env.scope.names.lookup nm = some .local) (hk : X.env.scope.kind = .function) (hln : (py.line == pos.line) = true)
    (hna : (scope.names.any fun (n, k) => n == nm && (k == .local || k == .cell)) = false) (hc : X.calm = true := by rfl) (hs : ∀ x, foldedSetIterable it X.env x = pure x := by intro _; rfl) :
    JS X e (.Assign [.Name nm py] (.ListComp elt [⟨tg, it, [], 0⟩] scope pos) spos) ss (.nx ((P N).set i (.own (oL ((List.range N).map outs))))) :=
  have T : ∀ (s : Shared) (H : Hp) (C : Addr) (cl : List (Str × Addr)) (fp : List Addr), PE (X.blk s H scope (compEnvC scope cl C X.env) fp) elt (fun σ H Q => ∃ i : { i // i < N } × (Addr → Option HO), rE (e.kp i.2) (B i.1.1) (outs i.1.1) (B' i.1.1) σ H Q) :=
    fun s H C cl fp => PE_any fun i => he i.1.1 i.1.2 i.2 s H C cl fp
  PS_mono (ps_setLc hc hNd hy hyl (sw_true hk hyl hln hna) hi ok hg (fun _ _ _ _ _ => pts_nil) T hs) fun D σ H ⟨F, I, k⟩ =>
    lc_read P B B' outs hl soft hvs hgs hB hN ⟨F, I, fun ad F' H' x1 I1 O => k _ F' H' x1 (I1.setO O)⟩
/-- a comprehension whose element changes nothing -/
theorem jo_lcP {N : Nat} {ys : Nat → Mp} {own : List (Str × Nat)} {elt tg it : Expr} {scope : Scope} {g : TG} (B : Nat → List Slot) (outs : Nat → Mp) (hi : JI X e tg it ss N ys ss1) (soft : Soft ss1 (own.map (·.2)))
    (hg : ∀ (s : Shared) (H : Hp) (C : Addr) (cl : List (Str × Addr)) (fp : List Addr), PG (X.blk s H scope (compEnvC scope cl C X.env) fp) tg g)
    (hgs : ∀ i, i < N → GOk g (own.map (·.2)) (ys i) (wipeS ss1 (own.map (·.2))) (B i))
    (he : ∀ i, i < N → ∀ (k : Addr → Option HO) (s : Shared) (H : Hp) (C : Addr) (cl : List (Str × Addr)) (fp : List Addr), JE (X.blk s H scope (compEnvC scope cl C X.env) fp) (e.kp k) elt (B i) (outs i) (B i))
    (hB : ∀ i, i < N → wipeS (B i) (own.map (·.2)) = wipeS ss1 (own.map (·.2))) (hN : N ≤ 100000)
    (hNd : X.N.Nodup) (ok : BlkOk X.N X.env.scope scope own) (hc : X.calm = true := by rfl) (hs : ∀ x, foldedSetIterable it X.env x = pure x := by intro _; rfl) :
    JO X e (.ListComp elt [⟨tg, it, [], 0⟩] scope pos) ss (oL ((List.range N).map outs)) ss1 :=
  jo_lc (P := fun _ => ss1) B B outs hi (fun _ => rfl) soft (fun _ _ _ => rfl) hg hgs he hB hN hNd ok hc hs
theorem js_setLcP {i : Nat} {nm : Str} {py spos : Pos} {N : Nat} {ys : Nat → Mp} {own : List (Str × Nat)} {elt tg it : Expr} {scope : Scope} {g : TG} (B : Nat → List Slot) (outs : Nat → Mp) (hi : JI X e tg it ss N ys ss1) (soft : Soft ss1 (own.map (·.2)))
    (hg : ∀ (s : Shared) (H : Hp) (C : Addr) (cl : List (Str × Addr)) (fp : List Addr), PG (X.blk s H scope (compEnvC scope cl C X.env) fp) tg g)
    (hgs : ∀ i, i < N → GOk g (own.map (·.2)) (ys i) (wipeS ss1 (own.map (·.2))) (B i))
    (he : ∀ i, i < N → ∀ (k : Addr → Option HO) (s : Shared) (H : Hp) (C : Addr) (cl : List (Str × Addr)) (fp : List Addr), JE (X.blk s H scope (compEnvC scope cl C X.env) fp) (e.kp k) elt (B i) (outs i) (B i))
    (hB : ∀ i, i < N → wipeS (B i) (own.map (·.2)) = wipeS ss1 (own.map (·.2))) (hN : N ≤ 100000)
    (hNd : X.N.Nodup) (ok : BlkOk X.N X.env.scope scope own) (hy : X.N[i]? = some nm) (hyl : X.env.scope.names.lookup nm = some .local) (hk : X.env.scope.kind = .function) (hln : (py.line == pos.line) = true)
    (hna : (scope.names.any fun (n, k) => n == nm && (k == .local || k == .cell)) = false) (hc : X.calm = true := by rfl) (hs : ∀ x, foldedSetIterable it X.env x = pure x := by intro _; rfl) :
    JS X e (.Assign [.Name nm py] (.ListComp elt [⟨tg, it, [], 0⟩] scope pos) spos) ss (.nx (ss1.set i (.own (oL ((List.range N).map outs))))) :=
  js_setLc (P := fun _ => ss1) B B outs hi (fun _ => rfl) soft (fun _ _ _ => rfl) hg hgs he hB hN hNd ok hy hyl hk hln hna hc hs
end Jd

/-! text J7 -/
set_option Elab.async false
set_option linter.all false
set_option maxRecDepth 100000
set_option maxHeartbeats 2000000
namespace Jd
open PySem L2 PySem.Spec PyProof.Rows
variable {X : Cx} {e : En} {ss ss' ss1 ss2 ss3 : List Slot} {σ : L2.St} {F F' H H' : Hp} {a b c x y : Expr} {pos p q : Pos} {m n o : Mp} {i j : Int} {ms : List Mp} {st : Stmt} {rest body : List Stmt} {r : Res}

/-! ### promises -/
structure Frame (F H F' H' : Hp) : Prop where
  f : Ex F F'
  s : Ex F' H'
  h : Ex H H'
  n : ∀ a, F a = none → H a ≠ none → F' a = none
structure FrameB (a : Addr) (F H F' H' : Hp) : Prop where
  f : Ex F F'
  s : Ex F' H'
  h : ∀ b o, b ≠ a → H b = some o → H' b = some o
  n : ∀ b, F b = none → H b ≠ none → F' b = none
/-- a def that changes nothing that stands: i tells its arguments -/
def spP {ι : Type} (pre : ι → Prop) (ins : ι → List Mp) (out : ι → Mp) : Sp := fun vs H Q _ => ∃ i, pre i ∧ ∃ F, Ex F H ∧ allP F (ins i) vs ∧ ∀ v F' H', Frame F H F' H' → (out i).p F' v → Q v H'
/-- a def that changes its first argument alone -/
def spB {ι : Type} (pre : ι → Prop) (b0 b1 : ι → Mo) (ins : ι → List Mp) (out : ι → Mp) : Sp := fun vs H Q _ => ∃ i, pre i ∧ ∃ F a u us, vs = .ref a :: us ∧ Ex F H ∧ H a = some u ∧ F a = none ∧ (b0 i).p F a u ∧ allP F (ins i) us ∧
  ∀ v F' H' u', FrameB a F H F' H' → H' a = some u' → (b1 i).p F' a u' → (out i).p F' v → Q v H'
theorem spP_len {ι : Type} {pre : ι → Prop} {ins : ι → List Mp} {out : ι → Mp} {ps : List Str} (hl : ∀ i, (ins i).length = ps.length) {vs : List V} {H : Hp} {Q : VK} {E : XK} (h : spP pre ins out vs H Q E) : vs.length = ps.length := by
  obtain ⟨i, _, F, _, hA, _⟩ := h
  rw [hA.length, hl]
theorem spB_len {ι : Type} {pre : ι → Prop} {b0 b1 : ι → Mo} {ins : ι → List Mp} {out : ι → Mp} {ps : List Str} (hl : ∀ i, (ins i).length + 1 = ps.length) {vs : List V} {H : Hp} {Q : VK} {E : XK} (h : spB pre b0 b1 ins out vs H Q E) : vs.length = ps.length := by
  obtain ⟨i, _, F, a, u, us, rfl, _, _, _, _, hA, _⟩ := h
  rw [List.length_cons, hA.length, hl]
/-- how a body ends -/
inductive RetsTo : Res → Mp → List Slot → Prop where
  | rt {m : Mp} {s : List Slot} : RetsTo (.rt m s) m s
  | nx {m : Mp} {s : List Slot} (h : m = mNone) : RetsTo (.nx s) m s
def starts (N : List Str) (ss : List Slot) : List Slot := ss ++ List.replicate (N.length - ss.length) .any
theorem fit_start {N : List Str} {vs : List V} {ms : List Mp} (hs : Ex F H) (hA : allP F ms vs) (hN : ms.length ≤ N.length) : Fit { f := F, h := H, m := fun _ => False, k := fun _ => none } (starts N (ms.map .val)) (L2.start N vs) F H :=
  { up := Ex.rfl
    sub := hs
    keep := fun a o q => .inl q
    new := fun a q _ => q
    kept := fun a o q => by cases q
    len := by
      unfold L2.start starts
      rw [List.length_append, List.length_append, List.length_map, List.length_map, List.length_replicate, List.length_replicate, hA.length]
    at_ := fun i s h => by
      unfold starts at h
      unfold L2.start
      by_cases hi : i < ms.length
      · rw [List.getElem?_append_left (by rw [List.length_map]; exact hi), List.getElem?_map] at h
        rw [List.getElem?_append_left (by rw [List.length_map, hA.length]; exact hi), List.getElem?_map]
        obtain ⟨v, h1, h2⟩ := hA.get (i := i) (List.getElem?_eq_getElem hi)
        rw [List.getElem?_eq_getElem hi] at h
        cases h
        rw [h1]
        exact ⟨some v, rfl, v, rfl, h2⟩
      · have hi' : ms.length ≤ i := by omega
        rw [List.getElem?_append_right (by rw [List.length_map]; exact hi'), List.length_map, List.getElem?_replicate] at h
        rw [List.getElem?_append_right (by rw [List.length_map, hA.length]; exact hi'), List.length_map, hA.length, List.getElem?_replicate]
        by_cases hz : i - ms.length < N.length - ms.length
        · rw [if_pos hz] at h ⊢
          cases h
          exact ⟨none, rfl, trivial⟩
        · rw [if_neg hz] at h; cases h
    dis := fun i j m n _ h _ => by
      unfold starts at h
      by_cases hi : i < ms.length
      · rw [List.getElem?_append_left (by rw [List.length_map]; exact hi), List.getElem?_map, List.getElem?_eq_getElem hi] at h
        cases h
      · rw [List.getElem?_append_right (by rw [List.length_map]; omega), List.getElem?_replicate] at h
        split at h <;> cases h
    bdis := fun i j a b m n _ h _ => by
      unfold starts at h
      by_cases hi : i < ms.length
      · rw [List.getElem?_append_left (by rw [List.length_map]; exact hi), List.getElem?_map, List.getElem?_eq_getElem hi] at h
        cases h
      · rw [List.getElem?_append_right (by rw [List.length_map]; omega), List.getElem?_replicate] at h
        split at h <;> cases h }
theorem fit_startB {N : List Str} {vs : List V} {ms : List Mp} {ad : Addr} {u : HO} {mo : Mo} (hs : Ex F H) (hA : allP F ms vs) (hN : ms.length + 1 ≤ N.length) (hu : H ad = some u) (hf : F ad = none) (hm : mo.p F ad u) :
    Fit { f := F, h := H, m := fun b => b = ad, k := fun _ => none } (starts N (.bor ad mo :: ms.map .val)) (L2.start N (.ref ad :: vs)) F H := by
  have key : ∀ (i : Nat) (s : Slot), (starts N (.bor ad mo :: ms.map .val))[i]? = some s → (i = 0 ∧ s = .bor ad mo) ∨ (∃ v m, (L2.start N (.ref ad :: vs))[i]? = some (some v) ∧ s = .val m ∧ m.p F v) ∨ ((L2.start N (.ref ad :: vs))[i]? = some none ∧ s = .any) := fun i s h => by
    unfold starts at h
    unfold L2.start
    cases i with
    | zero => cases h; exact .inl ⟨rfl, rfl⟩
    | succ i =>
      by_cases hi : i < ms.length
      · rw [List.getElem?_append_left (by rw [List.length_cons, List.length_map]; omega), List.getElem?_cons_succ, List.getElem?_map] at h
        rw [List.getElem?_append_left (by rw [List.length_map, List.length_cons, hA.length]; omega), List.map_cons, List.getElem?_cons_succ, List.getElem?_map]
        obtain ⟨v, h1, h2⟩ := hA.get (i := i) (List.getElem?_eq_getElem hi)
        rw [List.getElem?_eq_getElem hi] at h
        cases h
        rw [h1]
        exact .inr (.inl ⟨v, _, rfl, rfl, h2⟩)
      · have hi' : ms.length ≤ i := by omega
        rw [List.getElem?_append_right (by rw [List.length_cons, List.length_map]; omega), List.getElem?_replicate, List.length_cons, List.length_map] at h
        rw [List.getElem?_append_right (by rw [List.length_map, List.length_cons, hA.length]; omega), List.getElem?_replicate, List.length_map, List.length_cons, hA.length]
        by_cases hz : i + 1 - (ms.length + 1) < N.length - (ms.length + 1)
        · rw [if_pos hz] at h ⊢
          cases h
          exact .inr (.inr ⟨rfl, rfl⟩)
        · rw [if_neg hz] at h; cases h
  exact
  { up := Ex.rfl
    sub := hs
    keep := fun a o q => .inl q
    new := fun a q _ => q
    kept := fun a o q => by cases q
    len := by
      unfold L2.start starts
      rw [List.length_append, List.length_append, List.length_map, List.length_cons, List.length_cons, List.length_map, List.length_replicate, List.length_replicate, hA.length]
    at_ := fun i s h => by
      rcases key i s h with ⟨rfl, rfl⟩ | ⟨v, m, h1, rfl, h2⟩ | ⟨h1, rfl⟩
      · exact ⟨some (.ref ad), rfl, rfl, rfl, some_ne hu, rfl, u, hu, hf, hm⟩
      · exact ⟨_, h1, v, rfl, h2⟩
      · exact ⟨_, h1, trivial⟩
    dis := fun i j m n _ h _ => by
      rcases key i _ h with ⟨_, q⟩ | ⟨_, _, _, q, _⟩ | ⟨_, q⟩ <;> cases q
    bdis := fun i j a b m n ne h h' => by
      rcases key i _ h with ⟨z, _⟩ | ⟨_, _, _, q, _⟩ | ⟨_, q⟩
      · rcases key j _ h' with ⟨z', _⟩ | ⟨_, _, _, q, _⟩ | ⟨_, q⟩
        · exact absurd (z.trans z'.symm) ne
        · cases q
        · cases q
      · cases q
      · cases q }
section
variable {P : Program} {w : World} {K : PySem.W.Frag} {mg : Str → Option Value} {base : Heap} {nm qual : Str} {params : Arguments} {bd : List Stmt} {scope : Scope} {dvs : List V} {kws : List (Str × V)} {f : Addr} {fd : FuncData} {N ps : List Str} {k : Nat} {ι : Type} {pre : ι → Prop} {ins : ι → List Mp} {out : ι → Mp} {b0 b1 : ι → Mo}
/-- a def by its body -/
theorem fn_pure (D : FunD K nm qual params bd scope dvs kws f fd) (S : FnScope N ps scope) (hl : ∀ i, (ins i).length = ps.length) (hN : ps.length ≤ N.length)
    (hb : ∀ i, pre i → ∀ (cdv : Value) (A : Around) (outer : List Env) (s : Shared) (H : Hp) (E : XK) (e : En), Room k (A.deeper (envOfC qual scope s.heap.objs.size f cdv)) →
      ∃ r ss', JSs (cxOf CX0 P w K mg base N qual scope f cdv A outer s H E).nox e bd (starts N ((ins i).map .val)) r ∧ RetsTo r (out i) ss') : FnOk P w K mg base CX0 (k + 1) f fd ps (spP pre ins out) := by
  refine D.ok S (fun vs H Q E h => spP_len hl h) fun cdv A outer s H vs Q E hr hsp => ?_
  obtain ⟨i, hp, F, hs, hA, q⟩ := hsp
  obtain ⟨r, ss', hJ, hR⟩ := hb i hp cdv A outer s H E { f := F, h := H, m := fun _ => False, k := fun _ => none } hr
  refine ⟨_, PSs.nox hJ, F, fit_start hs hA (by rw [hl]; exact hN), ?_⟩
  have fin : ∀ {v : V} {σ' : L2.St} {F' H' : Hp}, Ex F F' → Fit { f := F, h := H, m := fun _ => False, k := fun _ => none } ss' σ' F' H' → (out i).p F' v → Q v H' := fun x I hv => by
    refine q _ _ _ ⟨x, I.sub, fun a o h => ?_, fun a h1 h2 => I.new a h1 h2⟩ hv
    rcases I.keep a o h with z | ⟨z, _⟩
    · exact z
    · exact z.elim
  cases hR with
  | rt => exact fun v σ' F' H' x I hv => fin x I hv
  | nx h => exact fun σ' F' H' x I => fin x I (by rw [h]; rfl)
theorem fn_bor (D : FunD K nm qual params bd scope dvs kws f fd) (S : FnScope N ps scope) (hl : ∀ i, (ins i).length + 1 = ps.length) (hN : ps.length ≤ N.length)
    (hb : ∀ i, pre i → ∀ (cdv : Value) (A : Around) (outer : List Env) (s : Shared) (H : Hp) (E : XK) (e : En) (ad : Addr), Room k (A.deeper (envOfC qual scope s.heap.objs.size f cdv)) →
      ∃ r ss', JSs (cxOf CX0 P w K mg base N qual scope f cdv A outer s H E).nox e bd (starts N (.bor ad (b0 i) :: (ins i).map .val)) r ∧ RetsTo r (out i) ss' ∧ ss'[0]? = some (.bor ad (b1 i))) :
    FnOk P w K mg base CX0 (k + 1) f fd ps (spB pre b0 b1 ins out) := by
  refine D.ok S (fun vs H Q E h => spB_len hl h) fun cdv A outer s H vs Q E hr hsp => ?_
  obtain ⟨i, hp, F, ad, u, us, rfl, hs, hu, hf, hm, hA, q⟩ := hsp
  obtain ⟨r, ss', hJ, hR, h0⟩ := hb i hp cdv A outer s H E { f := F, h := H, m := fun b => b = ad, k := fun _ => none } ad hr
  refine ⟨_, PSs.nox hJ, F, fit_startB hs hA (by rw [hl]; exact hN) hu hf hm, ?_⟩
  have fin : ∀ {v : V} {σ' : L2.St} {F' H' : Hp}, Ex F F' → Fit { f := F, h := H, m := fun b => b = ad, k := fun _ => none } ss' σ' F' H' → (out i).p F' v → Q v H' := fun x I hv => by
    obtain ⟨o, _, _, _, _, _, u', h1, _, h2⟩ := I.at_ 0 _ h0
    refine q _ _ _ u' ⟨x, I.sub, fun a o ne h => ?_, fun a h1 h2 => I.new a h1 h2⟩ h1 h2 hv
    rcases I.keep a o h with z | ⟨z, _⟩
    · exact z
    · exact absurd z ne
  cases hR with
  | rt => exact fun v σ' F' H' x I hv => fin x I hv
  | nx h => exact fun σ' F' H' x I => fin x I (by rw [h]; rfl)
end

/-! ### calls -/
section
variable {k : Nat} {f C : Addr} {fd : FuncData} {ps : List Str} {ι : Type} {pre : ι → Prop} {ins : ι → List Mp} {out : ι → Mp} {b0 b1 : ι → Mo} {nm : Str} {es : List Expr}
theorem Fit.called (I : Fit e ss σ F H) (h : Frame F H F' H') : Fit e ss σ F' H' := I.frame h.f h.s h.h h.n
theorem je_call {i : ι} {dvs : List V} {ds : List Value} {msd : List Mp} (G : FnOk X.prog X.w X.K X.mg X.base CX0 k f fd ps (spP pre ins out)) (hr : Room k X.A) (hm : X.mg nm = some (.ref f)) (hk : PySem.W.keepIn X.K (.ref f) = true) (hb : Binds X.K fd ps ds) (hd : Vals dvs ds) (hdp : ∀ F, allP F msd dvs)
    (ha : JA X e (x :: es) ss ms ss1) (hi : ins i = ms ++ msd) (hp : pre i) (hg : Gl X nm := by rfl) (hdb : (nm == ("__debug__" : Str)) = false := by decide) (he : starEach (x :: es) X.env = (false, eval x X.env) :: starEach es X.env := by rfl) (hpl : (backTo pos (starEach es X.env)).any (·.1) = false := by rfl) :
    JE X e (.Call (.Name nm p) (x :: es) [] pos) ss (out i) ss1 :=
  PE_mono (pe_call (E := fun _ _ _ => False) G hr hg hm hk hb hd pass0 ha hdb he hpl) fun σ H Q ⟨F, I, K⟩ => ⟨F, I, fun vs F1 H1 x1 I1 hA =>
    ⟨i, hp, F1, I1.sub, by rw [hi]; exact hA.append (hdp F1), fun v F' H' fr hv => K v F' H' (x1.trans fr.f) (I1.called fr) hv⟩⟩
def oTrue : Mo := ⟨fun _ _ _ => True, fun _ h => h⟩
theorem upd_id {H : Hp} {a : Addr} {o : HO} (h : H a = some o) : upd H a o = H := by
  funext b
  unfold upd
  by_cases z : b = a
  · rw [if_pos z, z, h]
  · rw [if_neg z]
/-- behind a call that changed slot i's own object -/
theorem Fit.calledO (I : Fit e ss σ F H) {i : Nat} {m m' : Mo} {ad : Addr} {u' : HO} (h : ss[i]? = some (.own m)) (ha : σ[i]? = some (some (V.ref ad))) (fr : FrameB ad F H F' H') (hu : H' ad = some u') (hm : m'.p F' ad u') : Fit e (ss.set i (.own m')) σ F' H' := by
  obtain ⟨o, h1, a', u, rfl, h2, h3, _⟩ := I.at_ i _ h
  rw [h1] at ha; cases ha
  have I1 := I.write (n := oTrue) (w := u') h h1 trivial
  have I2 := I1.frame fr.f fr.s (fun b o q => by
    by_cases z : b = ad
    · subst z; rw [upd_same] at q; cases q; exact hu
    · rw [upd_ne z] at q; exact fr.h b o z q) (fun b q1 q2 => by
    by_cases z : b = ad
    · subst z; exact fr.n b q1 (some_ne h2)
    · rw [upd_ne z] at q2; exact fr.n b q1 q2)
  have lt : i < ss.length := (List.getElem?_eq_some_iff.mp h).1
  have I3 := I2.write (n := m') (w := u') (by rw [List.getElem?_set_self lt]) h1 hm
  rw [upd_id hu, List.set_set] at I3
  exact I3
theorem Fit.calledB (I : Fit e ss σ F H) {i : Nat} {m m' : Mo} {ad : Addr} {u' : HO} (h : ss[i]? = some (.bor ad m)) (fr : FrameB ad F H F' H') (hu : H' ad = some u') (hm : m'.p F' ad u') : Fit e (ss.set i (.bor ad m')) σ F' H' := by
  obtain ⟨o, h1, rfl, _, _, _, u, h2, h3, _⟩ := I.at_ i _ h
  have I1 := I.writeB (n := oTrue) (w := u') h trivial
  have I2 := I1.frame fr.f fr.s (fun b o q => by
    by_cases z : b = ad
    · subst z; rw [upd_same] at q; cases q; exact hu
    · rw [upd_ne z] at q; exact fr.h b o z q) (fun b q1 q2 => by
    by_cases z : b = ad
    · subst z; exact fr.n b q1 (some_ne h2)
    · rw [upd_ne z] at q2; exact fr.n b q1 q2)
  have lt : i < ss.length := (List.getElem?_eq_some_iff.mp h).1
  have I3 := I2.writeB (n := m') (w := u') (by rw [List.getElem?_set_self lt]) hm
  rw [upd_id hu, List.set_set] at I3
  exact I3
theorem je_callO {i : ι} {sl : Nat} {vn : Str} {q : Pos} (G : FnOk X.prog X.w X.K X.mg X.base CX0 k f fd ps (spB pre b0 b1 ins out)) (hr : Room k X.A) (hm : X.mg nm = some (.ref f)) (hk : PySem.W.keepIn X.K (.ref f) = true) (hb : Binds X.K fd ps [])
    (hs0 : ∃ m, ss[sl]? = some (.own m)) (hN : X.N[sl]? = some vn) (ha : JA X e es ss (ins i) ss1) (hs : ss1[sl]? = some (.own (b0 i))) (hp : pre i) (hg : Gl X nm := by rfl) (hv : Vis X.env.scope vn := by first | exact Or.inl rfl | exact Or.inr (Or.inl rfl) | exact Or.inr (Or.inr rfl)) (hd : (vn == ("__debug__" : Str)) = false := by decide)
    (hcd : (vn == ("__classdict__" : Str)) = false := by decide) (hdb : (nm == ("__debug__" : Str)) = false := by decide) (he : starEach (.Name vn q :: es) X.env = (false, eval (.Name vn q) X.env) :: starEach es X.env := by rfl) (hpl : (backTo pos (starEach es X.env)).any (·.1) = false := by rfl) :
    JE X e (.Call (.Name nm p) (.Name vn q :: es) [] pos) ss (out i) (ss1.set sl (.own (b1 i))) :=
  PE_mono (pe_call (E := fun _ _ _ => False) G hr hg hm hk hb .nil pass0 (pa_cons (pe_var (i := sl) hN hv hd hcd) ha he) hdb he hpl) fun σ H Q ⟨F, I, K⟩ => by
    obtain ⟨m, hs0⟩ := hs0
    obtain ⟨o, h1, ad, u, rfl, _⟩ := I.at_ sl _ hs0
    refine ⟨_, h1, F, I, fun vs F1 H1 x1 I1 hA => ?_⟩
    obtain ⟨o', r1, ad', u', rfl, r2, r3, _, _, r4⟩ := I1.at_ sl _ hs
    rw [h1] at r1; cases r1
    refine ⟨i, hp, F1, ad, u', vs ++ [], rfl, I1.sub, r2, r3, r4, by rw [List.append_nil]; exact hA, fun v F' H' u2 fr hu hm hv => K v F' H' (x1.trans fr.f) (I1.calledO hs h1 fr hu hm) hv⟩
theorem je_callBr {i : ι} {sl : Nat} {vn : Str} {q : Pos} {ad : Addr} (G : FnOk X.prog X.w X.K X.mg X.base CX0 k f fd ps (spB pre b0 b1 ins out)) (hr : Room k X.A) (hm : X.mg nm = some (.ref f)) (hk : PySem.W.keepIn X.K (.ref f) = true) (hb : Binds X.K fd ps [])
    (hs0 : ∃ m, ss[sl]? = some (.bor ad m)) (hN : X.N[sl]? = some vn) (ha : JA X e es ss (ins i) ss1) (hs : ss1[sl]? = some (.bor ad (b0 i))) (hp : pre i) (hg : Gl X nm := by rfl) (hv : Vis X.env.scope vn := by first | exact Or.inl rfl | exact Or.inr (Or.inl rfl) | exact Or.inr (Or.inr rfl)) (hd : (vn == ("__debug__" : Str)) = false := by decide)
    (hcd : (vn == ("__classdict__" : Str)) = false := by decide) (hdb : (nm == ("__debug__" : Str)) = false := by decide) (he : starEach (.Name vn q :: es) X.env = (false, eval (.Name vn q) X.env) :: starEach es X.env := by rfl) (hpl : (backTo pos (starEach es X.env)).any (·.1) = false := by rfl) :
    JE X e (.Call (.Name nm p) (.Name vn q :: es) [] pos) ss (out i) (ss1.set sl (.bor ad (b1 i))) :=
  PE_mono (pe_call (E := fun _ _ _ => False) G hr hg hm hk hb .nil pass0 (pa_cons (pe_var (i := sl) hN hv hd hcd) ha he) hdb he hpl) fun σ H Q ⟨F, I, K⟩ => by
    obtain ⟨m, hs0⟩ := hs0
    obtain ⟨o, h1, rfl, _⟩ := I.at_ sl _ hs0
    refine ⟨_, h1, F, I, fun vs F1 H1 x1 I1 hA => ?_⟩
    obtain ⟨o', r1, _, _, _, _, u', r2, r3, r4⟩ := I1.at_ sl _ hs
    refine ⟨i, hp, F1, ad, u', vs ++ [], rfl, I1.sub, r2, r3, r4, by rw [List.append_nil]; exact hA, fun v F' H' u2 fr hu hm hv => K v F' H' (x1.trans fr.f) (I1.calledB hs fr hu hm) hv⟩
/-- C(e, ..), C's __init__ filling the new instance -/
theorem jo_make {i : ι} (M : Mk X.K C f) (G : FnOk X.prog X.w X.K X.mg X.base CX0 k f fd ps (spB pre (fun _ => oI C []) b1 ins fun _ => mNone)) (hr : Room (k + 1) X.A) (hm : X.mg nm = some (.ref C)) (hb : Binds X.K fd ps [])
    (ha : JA X e (x :: es) ss (ins i) ss1) (hp : pre i) (hg : Gl X nm := by rfl) (hdb : (nm == ("__debug__" : Str)) = false := by decide) (he : starEach (x :: es) X.env = (false, eval x X.env) :: starEach es X.env := by rfl) (hpl : (backTo pos (starEach es X.env)).any (·.1) = false := by rfl) :
    JO X e (.Call (.Name nm p) (x :: es) [] pos) ss (b1 i) ss1 :=
  PE_mono (pe_make (E := fun _ _ _ => False) M G hr hg hm hb .nil pass0 ha hdb he hpl) fun σ H Q ⟨F, I, K⟩ => ⟨F, I, fun vs F1 H1 x1 I1 hA z dz hz hdz ne => by
    have I2 := (I1.grow (o := .own z) hdz)
    have hz2 : upd H1 dz (.own z) z = none := by rw [upd_ne (Ne.symm ne)]; exact hz
    have I3 := I2.grow (o := .ins C dz []) hz2
    have O := Own1.lay (m := oI C []) (u := .ins C dz []) I2 hz2 ⟨dz, [], rfl, trivial⟩
    refine ⟨i, hp, F1, z, _, vs ++ [], rfl, I3.sub, upd_same, O.f, ⟨dz, [], rfl, trivial⟩, by rw [List.append_nil]; exact hA, fun v F' H' u' fr hu hm' hv => ⟨hv, ?_⟩⟩
    -- the new instance is no slot's
    have fr2 : Fit e ss1 σ F' H' := by
      have I4 : Fit e ss1 σ F1 (upd H1 dz (.own z)) := I2
      refine I4.frame fr.f fr.s (fun b o q => ?_) (fun b q1 q2 => ?_)
      · have zb : b ≠ z := fun w => by rw [w, hz2] at q; cases q
        exact fr.h b o zb (by rw [upd_ne zb]; exact q)
      · have zb : b ≠ z := fun w => by rw [w, hz2] at q2; exact q2 rfl
        exact fr.n b q1 (by rw [upd_ne zb]; exact q2)
    refine K z F' H' (x1.trans fr.f) fr2 ⟨⟨u', hu, hm'⟩, fr.n z O.f (by rw [upd_same]; exact fun t => by cases t), O.h, O.k, O.ne⟩⟩
end
/-- self.f = e, a new attribute -/
theorem putF_zip {f : Str} {y : V} : ∀ {ks : List Str} {vs : List V}, f ∉ ks → vs.length = ks.length → putF f y (ks.zip vs) = (ks ++ [f]).zip (vs ++ [y])
  | [], [], _, _ => rfl
  | g :: ks, v :: vs, h, hl => by
    have h1 : g ≠ f := fun z => h (by rw [z]; exact List.mem_cons_self)
    have h2 : f ∉ ks := fun z => h (List.mem_cons_of_mem _ z)
    show (if g = f then _ else _) = _
    rw [if_neg h1]
    show (g, v) :: putF f y (ks.zip vs) = _
    rw [putF_zip h2 (Nat.succ.inj hl)]
    rfl
  | [], _ :: _, _, hl => nomatch hl
  | _ :: _, [], _, hl => nomatch hl
theorem js_fld {C ad : Addr} {fs : List (Str × Mp)} {f nm : Str} {i : Nat} {pos' : Pos} (he : JE X e x ss m ss1) (hs : ss1[i]? = some (.bor ad (oI C fs))) (hf : f ∉ fs.map (·.1)) (hl : fs.length < 900) (hc : Cls X.K C) (hn : NoAttr X.K C f) (hN : X.N[i]? = some nm)
    (hv : Vis X.env.scope nm := by first | exact Or.inl rfl | exact Or.inr (Or.inl rfl) | exact Or.inr (Or.inr rfl)) (hd : (nm == ("__debug__" : Str)) = false := by decide) (hcd : (nm == ("__classdict__" : Str)) = false := by decide)
    (hsw : swapsWith x (some (.Attribute (.Name nm p) f pos')) pos.line X.env = pure false := by rfl) : JS X e (.Assign [.Attribute (.Name nm p) f pos'] x pos) ss (.nx (ss1.set i (.bor ad (oI C (fs ++ [(f, m)]))))) :=
  PS_mono (ps_fld (pe_var (i := i) hN hv hd hcd) he hsw) fun D σ H ⟨F, I, k⟩ => ⟨F, I, fun v F1 H1 x1 I1 hv => by
    obtain ⟨o, h1, rfl, _, _, _, u, h3, _, dx, vs, rfl, h2⟩ := I1.at_ i _ hs
    have hlen : vs.length = (fs.map (·.1)).length := by rw [h2.length, List.length_map, List.length_map]
    refine ⟨_, h1, ad, C, dx, _, rfl, h3, hc, hn, ?_, k _ F1 _ x1 (I1.writeB hs ⟨dx, vs ++ [v], ?_, ?_⟩)⟩
    · have := List.length_zip (l₁ := fs.map (·.1)) (l₂ := vs)
      rw [hlen, List.length_map] at this
      omega
    · rw [List.map_append, putF_zip hf hlen]
      rfl
    · rw [List.map_append]
      exact h2.append ⟨hv, trivial⟩⟩
end Jd

/-! text D1 -/
set_option Elab.async false
set_option linter.all false
set_option maxRecDepth 100000
set_option maxHeartbeats 4000000
namespace Jd
open PySem L2 PySem.Spec PyProof.Rows
/-- a def of the module that keeps its promise -/
def Has (P : Program) (w : World) (K : PySem.W.Frag) (mg : Str → Option Value) (base : Heap) (k : Nat) (nm : Str) (ps : List Str) (sp : Sp) : Prop :=
  ∃ fd, FnOk P w K mg base CX0 k (He.ga K nm) fd ps sp ∧ Binds K fd ps [] ∧ mg nm = some (.ref (He.ga K nm)) ∧ PySem.W.keepIn K (.ref (He.ga K nm)) = true
theorem RetsTo.of {m m' : Mp} {s : List Slot} (h : m' = m) : RetsTo (.rt m' s) m s := h ▸ .rt
section
variable {X : Cx} {e : En} {ss ss1 : List Slot} {x : Expr} {pos p : Pos} {ms : List Mp} {k k' : Nat} {ps : List Str} {ι : Type} {pre : ι → Prop} {ins : ι → List Mp} {out : ι → Mp} {b0 b1 : ι → Mo} {nm : Str} {es : List Expr}
theorem je_callH {i : ι} (G : Has X.prog X.w X.K X.mg X.base k nm ps (spP pre ins out)) (hr : Room k' X.A) (hk : k ≤ k') (ha : JA X e (x :: es) ss ms ss1) (hp : pre i) {m : Mp} (hi : ins i = ms := by rfl) (hm : out i = m := by rfl) (hg : Gl X nm := by rfl) (hdb : (nm == ("__debug__" : Str)) = false := by decide)
    (he : starEach (x :: es) X.env = (false, eval x X.env) :: starEach es X.env := by rfl) (hpl : (backTo pos (starEach es X.env)).any (·.1) = false := by rfl) : JE X e (.Call (.Name nm p) (x :: es) [] pos) ss m ss1 := by
  obtain ⟨fd, G, B, hm', kp⟩ := G
  subst hm
  exact je_call (msd := []) G (hr.mono hk) hm' kp B .nil (fun _ => trivial) ha (by rw [List.append_nil, hi]) hp hg hdb he hpl
end
end Jd
namespace Afw
open PySem L2 PySem.Spec PyProof.Rows Jd
variable {P : Program} {w : World} {K : PySem.W.Frag} {mg : Str → Option Value} {base : Heap}
/-- whether it is an integer (True and False are none) -/
def IsInt (m : Mp) (b : Bool) : Prop := ∃ t r1 r2, TyM m t ∧ kitB t "int" = some r1 ∧ kitB t "bool" = some r2 ∧ b = (r1 && !r2)
theorem isInt_int {i : Int} : IsInt (mInt i) true := ⟨"int", true, false, tyM_int, by decide +kernel, by decide +kernel, rfl⟩
theorem isInt_bool {t : Bool} : IsInt (mBool t) false := ⟨"bool", true, true, tyM_bool, by decide +kernel, by decide +kernel, rfl⟩
theorem isInt_none : IsInt mNone false := ⟨"NoneType", false, false, tyM_none, by decide +kernel, by decide +kernel, rfl⟩
theorem isInt_str {z : Str} : IsInt (mStr z) false := ⟨"str", false, false, tyM_str, by decide +kernel, by decide +kernel, rfl⟩
/-- whether it is a tuple or a list -/
def IsSeq (m : Mp) (b : Bool) : Prop := ∃ t r1 r2, TyM m t ∧ kitB t "tuple" = some r1 ∧ kitB t "list" = some r2 ∧ b = (r1 || r2)
theorem isSeq_L {ms : List Mp} : IsSeq (mL ms) true := ⟨"list", false, true, tyM_L, by decide +kernel, by decide +kernel, rfl⟩
theorem isSeq_T {ms : List Mp} : IsSeq (mT ms) true := ⟨"tuple", true, false, tyM_T, by decide +kernel, by decide +kernel, rfl⟩
theorem isSeq_int {i : Int} : IsSeq (mInt i) false := ⟨"int", false, false, tyM_int, by decide +kernel, by decide +kernel, rfl⟩
theorem isSeq_bool {i : Bool} : IsSeq (mBool i) false := ⟨"bool", false, false, tyM_bool, by decide +kernel, by decide +kernel, rfl⟩
theorem isSeq_str {i : Str} : IsSeq (mStr i) false := ⟨"str", false, false, tyM_str, by decide +kernel, by decide +kernel, rfl⟩
theorem isSeq_none : IsSeq mNone false := ⟨"NoneType", false, false, tyM_none, by decide +kernel, by decide +kernel, rfl⟩

abbrev H_is_integer (P : Program) (w : World) (K : PySem.W.Frag) (mg : Str → Option Value) (base : Heap) : Prop := Has P w K mg base 1 "is_integer" ["thing"] (spP (fun p : Mp × Bool => IsInt p.1 p.2) (fun p => [p.1]) fun p => mBool p.2)
theorem ok_is_integer (T : Tx K mg) : H_is_integer P w K mg base := by
  obtain ⟨fd, D, B⟩ := T.D_is_integer
  refine ⟨fd, fn_pure D sc_is_integer (fun _ => rfl) (by decide) ?_, B, T.g_is_integer, D.kp⟩
  rintro ⟨m, b⟩ ⟨t, r1, r2, ht, h1, h2, rfl⟩ cdv A outer s H E e hr
  refine ⟨_, _, js_one (js_ret (je_and (je_isi (je_var (i := 0) rfl rfl) ht h1 T.b_isinstance T.b_int (by decide +kernel)) fun _ =>
    je_one (je_not (je_isi (je_var (i := 0) rfl rfl) ht h2 T.b_isinstance T.b_bool (by decide +kernel))))), .rt⟩
end Afw

/-! text J8 -/
set_option Elab.async false
set_option linter.all false
set_option maxRecDepth 100000
set_option maxHeartbeats 2000000
namespace PySem
open Sem (wp)
/-- enumerate(v) of whatever begins -/
theorem jd_meets_enum1 {v : Value} {o : Obj} {H : Heap → Prop} (B : Begins v o H) :
    Meets (Builtin.«enumerate.__new__» ⟨[.type "enumerate", v], []⟩) (fun _ R s => H s.heap ∧
      R (.ok (.ret (.ref (s.heap.push o).objs.size))) { s with heap := (s.heap.push o).push { cls := .type "enumerate", data := .fields #[.none, .bool false, .ref s.heap.objs.size, rawInt 0, .none, .none] } }) :=
  .of_wp fun prog w A R s h => by
    obtain ⟨hp, g, d, tk, os⟩ := s; obtain ⟨h1, h⟩ := h
    have hsub := sub_enumerate
    have q1 : ∀ {A' : Around} {E : Value → Shared → Prop} {Q : Value → Shared → Prop}, Q (.ref hp.objs.size) ⟨hp.push o, g, d, tk, os⟩ → wpAny (model prog w) A' (pyIter v) Q E ⟨hp, g, d, tk, os⟩ :=
      fun q => B.iter prog w _ _ ⟨hp, g, d, tk, os⟩ _ h1 q
    wp_walk using q1
    refine wpAny_stack_any fun st => wpAny_pure ?_
    split
    · rename_i c _ _ _ _ _
      cases (c == Value.type "enumerate")
      · wp_walk using q1
        exact ⟨_, rfl, h⟩
      · wp_walk using q1
        exact ⟨_, rfl, h⟩
    · wp_walk using q1
      exact ⟨_, rfl, h⟩
section
variable {prog : Program} {w : World} {A : Around} {E : Value → Shared → Prop} {s : Shared}
theorem jd_enum_begins {v : Value} {o : Obj} {H : Heap → Prop} {Q : Value → Shared → Prop} (B : Begins v o H) (h1 : H s.heap)
    (h : ∀ h', IsEnum h' (s.heap.objs.size + 1) s.heap.objs.size 0 .none → h'.get? s.heap.objs.size = some o → h'.objs.size = s.heap.objs.size + 2 →
      (∀ b o, s.heap.get? b = some o → h'.get? b = some o) → Q (.ref (s.heap.objs.size + 1)) { s with heap := h' }) :
    wpAny (model prog w) A (call (.type "enumerate") [v]) Q E s := by
  refine callType_new F.called_enumerate (by decide) (F.typeCall_enumerate_1 _) (F.newCall_enumerate_1 _) (fun obj => F.args_object_init_2 obj _) F.entry_enumerate_new
    (jd_meets_enum1 B) ⟨h1, ?_⟩
  have hz : (s.heap.push o).objs.size = s.heap.objs.size + 1 := Heap.size_push ..
  show _ ∧ _
  rw [hz]
  have he : IsEnum ((s.heap.push o).push { cls := .type "enumerate", data := .fields #[.none, .bool false, .ref s.heap.objs.size, rawInt 0, .none, .none] }) (s.heap.objs.size + 1) s.heap.objs.size 0 .none := by
    have := Heap.get?_push_size (s.heap.push o) (o := { cls := .type "enumerate", data := .fields #[.none, .bool false, .ref s.heap.objs.size, rawInt 0, .none, .none] }) rfl
    rw [hz] at this; exact this
  refine ⟨⟨_, he, rfl⟩, h _ he (Heap.get?_push_of_some _ (Heap.get?_push_size _ B.free)) (by rw [Heap.size_push, hz]) fun b o x => Heap.get?_push_of_some _ (Heap.get?_push_of_some _ x)⟩
end
end PySem
namespace Jd
open PySem L2
variable {X : Cx} {e : En} {ss ss' ss1 ss2 ss3 : List Slot} {σ : St} {F F' H H' : Hp} {a b c x y : Expr} {pos p q : Pos} {m n o : Mp} {i j : Int} {ms : List Mp}
/-- a value that is walked: its items, its iterator's state at an address -/
structure Src (F : Hp) (u : Value) (N : Nat) (ys : Nat → Mp) (st : Addr → Nat → Heap → Prop) : Prop where
  beg : ∀ (X : Cx) (pins : List (Addr × Obj)) (σ : St) (H : Hp) (s : Shared), Inv X pins σ H s → Ex F H → ∃ (o : Obj) (Hh : Heap → Prop), Begins u o Hh ∧ Hh s.heap ∧ ∀ it h, h.get? it = some o → st it 0 h
  at_ : ∀ (X : Cx) (pins : List (Addr × Obj)) (σ : St) (H : Hp) (s : Shared), X.A.handled = none → Inv X pins σ H s → Ex F H → ∃ (fpS : List Addr) (Hs : Heap → Prop) (P : Nat → Value → Prop), (∀ b ∈ fpS, ∃ o, H b = some o) ∧ Hs s.heap ∧
    (∀ it, it ∉ fpS → Draws X.prog X.w X.A.in1 it (it :: fpS) N P (fun i h => st it i h ∧ Hs h)) ∧ ∀ i v, i < N → P i v → ∃ y, RelV y v ∧ (ys i).p F y
  fr : ∀ it i h h', st it i h → (∀ o, h.get? it = some o → h'.get? it = some o) → st it i h'
  ob : ∀ it i h, st it i h → ∃ o, h.get? it = some o ∧ ∀ v, o.data ≠ .cell v
theorem in1_hd (A : Around) : A.in1.handled = A.handled := rfl
theorem getD_p {F : Hp} {vs : List V} (hA : allP F ms vs) {i : Nat} {v : V} (hi : i < ms.length) (h : vs[i]? = some v) : (ms.getD i mTrue).p F v := by
  obtain ⟨w, h1, h2⟩ := hA.get (i := i) (List.getElem?_eq_getElem hi)
  rw [h] at h1
  cases h1
  rw [List.getD_eq_getElem?_getD, List.getElem?_eq_getElem hi]
  exact h2
theorem src_list {F : Hp} {v : V} {u : Value} (h : (mL ms).p F v) (r : RelV v u) : ∃ st, Src F u ms.length (fun i => ms.getD i mTrue) st := by
  obtain ⟨ad, vs, rfl, hR, hA⟩ := h
  cases r
  refine ⟨fun it i h => h.IsListIter it ad i, ⟨fun X pins σ H s I x => ?_, fun X pins σ H s hh I x => ?_, fun it i h h' st k => st.at k, fun it i h ⟨o, h1, _, h2⟩ => ⟨o, h1, fun v z => by rw [h2] at z; cases z⟩⟩⟩
  · obtain ⟨its, rv, p, _⟩ := I.list (xs := vs) (.inl (Rd.up x hR))
    exact ⟨_, _, begins_list ad its.toArray, p.isList, fun it h e => ⟨_, e, rfl, rfl⟩⟩
  · obtain ⟨its, rv, p, _⟩ := I.list (xs := vs) (.inl (Rd.up x hR))
    have hl : its.toArray.size = ms.length := by rw [List.size_toArray, ← rv.length, hA.length]
    refine ⟨[ad], fun h => h.IsList ad its.toArray, fun i v => its.toArray[i]? = some v, fun b hb => ?_, p.isList, fun it hi => ?_, fun i v hi hp => ?_⟩
    · rw [List.mem_singleton.mp hb]
      rcases hR with hR | ⟨o, hR⟩
      · exact ⟨_, x _ _ hR⟩
      · exact ⟨_, x _ _ hR⟩
    · have D := Draws.list (prog := X.prog) (w := X.w) (A := X.A.in1) hh it ad (fun z => hi (by rw [z]; exact List.mem_singleton_self _)) its.toArray
      rw [hl] at D
      exact D
    · have hi2 : i < vs.length := by rw [hA.length]; exact hi
      obtain ⟨u, hu, ru⟩ := rv.get (List.getElem?_eq_getElem hi2)
      have e1 : u = v := by
        have hp' : its[i]? = some v := by simpa using hp
        rw [hu] at hp'
        exact Option.some.inj hp'
      subst e1
      exact ⟨_, ru, getD_p hA hi (List.getElem?_eq_getElem hi2)⟩
theorem src_tup {F : Hp} {v : V} {u : Value} (h : (mT ms).p F v) (r : RelV v u) : ∃ st, Src F u ms.length (fun i => ms.getD i mTrue) st := by
  obtain ⟨ad, vs, rfl, hR, hA⟩ := h
  cases r
  refine ⟨fun it i h => h.IsTupleIter it ad i, ⟨fun X pins σ H s I x => ?_, fun X pins σ H s hh I x => ?_, fun it i h h' ⟨o, h1, h2⟩ k => ⟨o, k o h1, h2⟩, fun it i h ⟨o, h1, _, h2⟩ => ⟨o, h1, fun v z => by rw [h2] at z; cases z⟩⟩⟩
  · obtain ⟨its, rv, p, _⟩ := I.tuple (xs := vs) (.inl (.inl (x _ _ hR)))
    exact ⟨_, _, begins_tuple ad its.toArray, p, fun it h e => ⟨_, e, rfl, rfl⟩⟩
  · obtain ⟨its, rv, p, _⟩ := I.tuple (xs := vs) (.inl (.inl (x _ _ hR)))
    have hl : its.toArray.size = ms.length := by rw [List.size_toArray, ← rv.length, hA.length]
    refine ⟨[ad], fun h => h.IsTuple ad its.toArray, fun i v => its.toArray[i]? = some v, fun b hb => ?_, p, fun it hi => ?_, fun i v hi hp => ?_⟩
    · rw [List.mem_singleton.mp hb]
      exact ⟨_, x _ _ hR⟩
    · have D := Draws.tuple (prog := X.prog) (w := X.w) (A := X.A.in1) hh it ad (fun z => hi (by rw [z]; exact List.mem_singleton_self _)) its.toArray
      rw [hl] at D
      exact D
    · have hi2 : i < vs.length := by rw [hA.length]; exact hi
      obtain ⟨u, hu, ru⟩ := rv.get (List.getElem?_eq_getElem hi2)
      have e1 : u = v := by
        have hp' : its[i]? = some v := by simpa using hp
        rw [hu] at hp'
        exact Option.some.inj hp'
      subst e1
      exact ⟨_, ru, getD_p hA hi (List.getElem?_eq_getElem hi2)⟩
theorem src_str {F : Hp} {v : V} {u : Value} {z : Str} (h : (mStr z).p F v) (r : RelV v u) : ∃ st, Src F u z.cps.size (fun i => mStr ⟨#[z.cps.getD i 0]⟩) st := by
  cases h
  obtain ⟨t, rfl⟩ := r
  refine ⟨fun it i h => h.IsStrIter it (strIterType z) z t i, ⟨fun X pins σ H s I x => ?_, fun X pins σ H s hh I x => ?_, fun it i h h' ⟨o, h1, h2⟩ k => ⟨o, k o h1, h2⟩, fun it i h ⟨o, h1, _, h2⟩ => ⟨o, h1, fun v z => by rw [h2] at z; cases z⟩⟩⟩
  · exact ⟨_, _, begins_text z t, trivial, fun it h e => ⟨_, e, rfl, rfl⟩⟩
  · refine ⟨[], fun _ => True, fun i v => ∃ c u, z.cps[i]? = some c ∧ v = .str ⟨#[c]⟩ u, fun b hb => (by cases hb), trivial, fun it hi => ?_, fun i v hi ⟨c, u, h1, h2⟩ => ⟨.str ⟨#[c]⟩, ⟨u, h2⟩, ?_⟩⟩
    · have D := Draws.text (prog := X.prog) (w := X.w) (A := X.A.in1) hh it z t
      exact ⟨fun i h st => D.live i h st.1, fun i h h' st k => ⟨D.frame i h h' st.1 k, trivial⟩, fun i s Q E hi st hQ => D.item i s Q E hi st.1 fun x h' tk hp st' hs => hQ x h' tk hp ⟨st', trivial⟩ hs, fun s Q E st hE => D.done s Q E st.1 hE⟩
    · show V.str _ = V.str _
      rw [Array.getD_eq_getD_getElem?, h1]
      rfl
/-- what an iterator of new tuples hands out: at turn i a new tuple of the values at hand -/
def ItN (F : Hp) (N : Nat) (item : Nat → List Mp) : It :=
  ⟨fun i H => i < N ∧ Ex F H, fun i H v H' => ∃ T xs, v = .ref T ∧ H T = none ∧ H' = upd H T (.tup xs) ∧ allP F (item i) xs, fun i H => i = N ∧ Ex F H⟩
theorem wk_itN {F : Hp} {N : Nat} {item : Nat → List Mp} : Wk (ItN F N item) N F (fun i => mT (item i)) where
  goes := fun i H hi x => ⟨hi, x⟩
  stops := fun H x => ⟨rfl, x⟩
  yields := fun i H x H' e ss σ F1 hi x1 I hy => by
    obtain ⟨T, xs, rfl, hT, rfl, hA⟩ := hy
    have x2 := Ex.new (H := F1) (p := T) (o := .tup xs) (I.sub.back hT)
    exact ⟨_, x2, I.lay hT, T, xs, rfl, upd_same, hA.up (x1.trans x2)⟩
  kept := fun i H x H' hy => by
    obtain ⟨T, xs, rfl, hT, rfl, hA⟩ := hy
    exact Ex.new hT
/-- the iterator's turn, from the library's walk over it -/
theorem turn_new {P : Program} {w : World} {K : PySem.W.Frag} {elts : List Expr} {kk : Nat} {tpos : Pos} {F : Hp} {N : Nat} {item : Nat → List Mp} {fp : List Addr} {it : Addr} {tn : Nat → Heap → Prop} (mem : it ∈ fp)
    (obj : ∀ i h, tn i h → ∀ b ∈ fp, ∃ o, h.get? b = some o ∧ ∀ v, o.data ≠ .cell v) (keep : ∀ i h h', tn i h → (∀ b ∈ fp, ∀ o, h.get? b = some o → h'.get? b = some o) → tn i h')
    (W : ∀ (X : Cx), X.prog = P → X.w = w → X.A.handled = none → ∀ (pins : List (Addr × Obj)) (s : Shared) (σ : St) (H : Hp), Inv X pins σ H s → Ex F H → (∀ b ∈ fp, FpOk X pins H b) →
      ∃ (fpA wr : List Addr) (St : Nat → Heap → Prop) (Y : Nat → Heap → Value → Heap → Prop), GoesN P w X.A (.Tuple elts kk tpos) it fpA wr N Y St ∧ (∀ b ∈ wr, b ∈ fp) ∧ (∀ i, tn i s.heap → St i s.heap) ∧ (∀ i h, St i h → tn i h) ∧
        ∀ i h0 v h, i < N → Y i h0 v h → ∃ T vals xs, v = .ref T ∧ h0.objs.size ≤ T ∧ h.IsTuple T vals ∧ Vals xs vals.toList ∧ allP F (item i) xs)
    (hz : ∀ i, (item i).length ≤ 100) (self : ∀ A i (s : Shared) (Q : Value → Shared → Prop) (E : Value → Shared → Prop), tn i s.heap → Q (.ref it) s → wpAny (model P w) A (pyIter (.ref it)) Q E s) :
    Turn P w K (.Tuple elts kk tpos) (ItN F N item) fp it tn where
  mem := mem
  obj := obj
  keep := keep
  item := by
    intro X hP hw hK hc i pins s σ H E I hf st hg
    obtain ⟨fpA, wr, St, Y, G, hwr, h1, h2, hY⟩ := W X hP hw (I.ok.hd hc) pins s σ H I hg.2 hf
    refine G.goes i s _ E hg.1 (h1 i st) fun v h' tk hy st' hk _ => ?_
    obtain ⟨T, vals, xs, rfl, hT, ht, rv, hA⟩ := hY i _ _ _ hg.1 hy
    have hl : xs.length = (item i).length := hA.length
    have new : ObjOk X.prog X.w (upd H T (.tup xs)) h' T (.tup xs) := ⟨Evl.sz_of (by have := hz i; omega), vals.toList, rv, by
      obtain ⟨o, q1, q2, q3⟩ := ht
      exact ⟨o, q1, q2, by simpa using q3⟩⟩
    have I1 : Inv X pins σ (upd H T (.tup xs)) { s with heap := h', toks := tk } := I.turnedNew (ch := fp) (fun b o hb q => hk b o (fun z => hb (hwr b z)) q) hf hT new
    have hn := I.hok.fresh hT
    refine ⟨.ref T, _, I1, rfl, ⟨T, xs, rfl, hn, rfl, hA⟩, h2 _ _ st', fun b hb => ?_⟩
    obtain ⟨o, ho, _⟩ := obj i _ st b hb
    rw [upd_ne (fun z => by rw [z] at ho; exact absurd (Nat.lt_of_lt_of_le (Heap.lt_size ho) hT) (Nat.lt_irrefl _))]
    exact (hf b hb).1
  done := by
    intro X hP hw hK hc i pins s σ H E I hf st hg
    obtain ⟨rfl, x⟩ := hg
    obtain ⟨fpA, wr, St, Y, G, hwr, h1, h2, hY⟩ := W X hP hw (I.ok.hd hc) pins s σ H I x hf
    subst hP hw
    exact G.stops s (fun s1 => Inv X pins σ H s1) E (h1 _ st) fun h' tk hk _ => (I.turnedL (t' := tk) (ch := fp) (fun b o hb q => hk b o (fun z => hb (hwr b z)) q) hf)
  self := self
/-! ### enumerate -/
theorem rel_ref {v : V} {u : Value} {a : Addr} (r : RelV v (.ref a)) : v = .ref a := by
  have := RelV.abs r
  exact (Option.some.inj this).symm
def rJ (e : En) (ss : List Slot) (S : Hp → V → Value → Prop) (ss' : List Slot) : TE := fun σ H Q => ∃ F, Fit e ss σ F H ∧ ∀ v F' H', Ex F F' → Fit e ss' σ F' H' → (∀ u, RelV v u → S F' v u) → Q v H'
theorem pi_enumJ {N : Nat} {ys : Nat → Mp} {elts : List Expr} {kk : Nat} {tpos : Pos} (ha : PE X a (rJ e ss (fun F _ u => ∃ st, Src F u N ys st) ss1)) (hm : X.mg "enumerate" = none) (hg : Gl X "enumerate" := by rfl) (hs : starEach [a] X.env = [(false, eval a X.env)] := by rfl) :
    JI X e (.Tuple elts kk tpos) (.Call (.Name "enumerate" p) [a] [] pos) ss N (fun i => mT [mInt i, ys i]) ss1 := by
  refine ⟨fun pins s σ H R I ⟨F, J, K⟩ => ?_⟩
  have ha1 : PA X [a] (tCons (rJ e ss (fun F _ u => ∃ st, Src F u N ys st) ss1) tNil) := pa_cons ha pa_nil hs
  refine PyProof.Rows.Call_ (ld_blt I hg hm PyProof.Rows.boot_enumerate (PyProof.Rows.callWith_type1 (thn (ha1.run pos pins s σ H (fun vs H1 => ∃ v F1, vs = [v] ∧ Ex F F1 ∧ Fit e ss1 σ F1 H1 ∧ ∀ u, RelV v u → ∃ st, Src F1 u N ys st) I ⟨F, J, fun v F1 H1 x1 I1 hv => ⟨v, F1, rfl, x1, I1, hv⟩⟩) fun us s1 ⟨vs, H1, I1, r1, v, F1, ev, x1, J1, hv⟩ => ?_) hs rfl))
  subst ev
  cases r1 with
  | cons r rr =>
    cases rr
    rename_i u
    obtain ⟨st, S⟩ := hv _ r
    obtain ⟨o, Hh, B, hH, hst⟩ := S.beg X pins σ H1 s1 I1 J1.sub
    refine jd_enum_begins B hH fun h' he ho hsz hk => wpAny_pyIter_enum he ?_
    have I2 : Inv X pins σ H1 { s1 with heap := h' } := I1.kept (t' := s1.toks) hk
    refine ⟨s1.heap.objs.size + 1, [s1.heap.objs.size + 1, s1.heap.objs.size], fun i h => (∃ old, IsEnum h (s1.heap.objs.size + 1) s1.heap.objs.size ((i : Nat) : Int) old) ∧ st s1.heap.objs.size i h, ItN F1 N fun i => [mInt i, ys i], H1, rfl, I2, ?_, ⟨⟨.none, he⟩, hst _ _ ho⟩, fun b hb => ?_, K _ F1 H1 x1 J1 wk_itN⟩
    · refine turn_new (by simp) (fun i h ⟨⟨old, q⟩, q2⟩ b hb => ?_) (fun i h h' ⟨⟨old, q⟩, q2⟩ k => ⟨⟨old, k _ (by simp) _ q⟩, S.fr _ _ _ _ q2 fun o z => k _ (by simp) o z⟩) (fun Y hP hw hd pins s σ H I x hf => ?_) (fun i => by simp) (fun A i s Q E ⟨⟨old, q⟩, _⟩ h => wpAny_pyIter_enum q h)
      · have e' : b = s1.heap.objs.size + 1 ∨ b = s1.heap.objs.size := by simpa using hb
        rcases e' with z | z
        · rw [z]; exact ⟨_, q, fun v w => nomatch w⟩
        · rw [z]; exact S.ob _ _ _ q2
      · obtain ⟨fpS, Hs, Pd, hb, hHs, D, hP2⟩ := S.at_ Y pins σ H s hd I x
        have nin : ∀ b ∈ [s1.heap.objs.size + 1, s1.heap.objs.size], b ∉ fpS := fun b hb1 hb2 => by
          obtain ⟨o, q⟩ := hb b hb2
          rw [(hf b hb1).1] at q
          cases q
        have G := GoesN.enumFrom (elts := elts) (x1 := kk) (pos := tpos) 0 (D s1.heap.objs.size (nin _ (by simp))) (s1.heap.objs.size + 1) (Nat.succ_ne_self _) (fun hm => by
          rcases List.mem_cons.mp hm with z | z
          · exact Nat.succ_ne_self _ z
          · exact nin _ (by simp) z) (List.mem_cons_self ..)
        rw [hP, hw] at G
        refine ⟨_, _, _, _, G, fun b hb => hb, fun i ⟨⟨old, q⟩, q2⟩ => ⟨⟨old, by rw [Int.zero_add]; exact q⟩, q2, hHs⟩, fun i h ⟨⟨old, q⟩, q2, _⟩ => ⟨⟨old, by rw [Int.zero_add] at q; exact q⟩, q2⟩, fun i h0 v h hi ⟨T, t, x, e1, e2, e3, e4⟩ => ?_⟩
        obtain ⟨y, hy1, hy2⟩ := hP2 i x hi e3
        exact ⟨T, _, [.int i, y], e1, e2, e4, .cons ⟨t, by rw [Int.zero_add]⟩ (.cons hy1 .nil), rfl, hy2, trivial⟩
    · have e' : b = s1.heap.objs.size + 1 ∨ b = s1.heap.objs.size := by simpa using hb
      have hle : s1.heap.objs.size ≤ b := by
        rcases e' with z | z
        · rw [z]; exact Nat.le_add_right _ _
        · rw [z]; exact Nat.le_refl _
      exact I1.fpOk hle (I1.hok.fresh hle)
theorem rJ_list (h : JE X e x ss (mL ms) ss1) : PE X x (rJ e ss (fun F _ u => ∃ st, Src F u ms.length (fun i => ms.getD i mTrue) st) ss1) := PE_mono h fun σ H Q ⟨F, I, k⟩ => ⟨F, I, fun v F1 H1 x1 I1 hv => k v F1 H1 x1 I1 fun u r => src_list hv r⟩
theorem rJ_tup (h : JE X e x ss (mT ms) ss1) : PE X x (rJ e ss (fun F _ u => ∃ st, Src F u ms.length (fun i => ms.getD i mTrue) st) ss1) := PE_mono h fun σ H Q ⟨F, I, k⟩ => ⟨F, I, fun v F1 H1 x1 I1 hv => k v F1 H1 x1 I1 fun u r => src_tup hv r⟩
theorem rJ_str {z : Str} (h : JE X e x ss (mStr z) ss1) : PE X x (rJ e ss (fun F _ u => ∃ st, Src F u z.cps.size (fun i => mStr ⟨#[z.cps.getD i 0]⟩) st) ss1) := PE_mono h fun σ H Q ⟨F, I, k⟩ => ⟨F, I, fun v F1 H1 x1 I1 hv => k v F1 H1 x1 I1 fun u r => src_str hv r⟩
end Jd

/-! text J9 -/
set_option Elab.async false
set_option linter.all false
set_option maxRecDepth 100000
set_option maxHeartbeats 4000000
namespace Jd
open PySem L2
variable {X : Cx} {e : En} {ss ss' ss1 ss2 ss3 : List Slot} {σ : St} {F F' H H' : Hp} {a b c x y : Expr} {pos p q : Pos} {m n o : Mp} {i j : Int} {ms : List Mp}
theorem Src.up {u : Value} {N : Nat} {ys : Nat → Mp} {st : Addr → Nat → Heap → Prop} (S : Src F u N ys st) (x : Ex F F') : Src F' u N ys st where
  beg := fun X pins σ H s I x2 => S.beg X pins σ H s I (x.trans x2)
  at_ := fun X pins σ H s hh I x2 => by
    obtain ⟨fpS, Hs, P, h1, h2, h3, h4⟩ := S.at_ X pins σ H s hh I (x.trans x2)
    exact ⟨fpS, Hs, P, h1, h2, h3, fun i v hi hp => let ⟨y, q1, q2⟩ := h4 i v hi hp; ⟨y, q1, (ys i).up x q2⟩⟩
  fr := S.fr
  ob := S.ob
theorem pi_zip2J {N1 N2 : Nat} {ys zs : Nat → Mp} {elts : List Expr} {kk : Nat} {tpos : Pos} (ha : PE X a (rJ e ss (fun F _ u => ∃ st, Src F u N1 ys st) ss1)) (hb : PE X b (rJ e ss1 (fun F _ u => ∃ st, Src F u N2 zs st) ss2)) (hm : X.mg "zip" = none) (hg : Gl X "zip" := by rfl)
    (hs : starEach [a, b] X.env = (false, eval a X.env) :: starEach [b] X.env := by rfl) (hs2 : starEach [b] X.env = (false, eval b X.env) :: starEach [] X.env := by rfl) (hpl : (backTo pos (starEach [b] X.env)).any (·.1) = false := by rfl) :
    JI X e (.Tuple elts kk tpos) (.Call (.Name "zip" p) [a, b] [] pos) ss (min N1 N2) (fun i => mT [ys i, zs i]) ss2 := by
  refine ⟨fun pins s σ H R I ⟨F, J, K⟩ => ?_⟩
  have ha1 := pa_cons ha (pa_cons hb pa_nil hs2) hs
  refine PyProof.Rows.Call_ (ld_blt I hg hm PyProof.Rows.boot_zip (PyProof.Rows.callWith_type1 (thn (ha1.run pos pins s σ H (fun vs H1 => ∃ v v2 F1, vs = [v, v2] ∧ Ex F F1 ∧ Fit e ss2 σ F1 H1 ∧ (∀ u, RelV v u → ∃ st, Src F1 u N1 ys st) ∧ ∀ u, RelV v2 u → ∃ st, Src F1 u N2 zs st) I
    ⟨F, J, fun v F1 H1 x1 I1 hv => ⟨F1, I1, fun v2 F2 H2 x2 I2 hv2 => ⟨v, v2, F2, rfl, x1.trans x2, I2, fun u r => let ⟨st, S⟩ := hv u r; ⟨st, S.up x2⟩, hv2⟩⟩⟩) fun us s1 ⟨vs, H1, I1, r1, v, v2, F1, ev, x1, J1, hv, hv2⟩ => ?_) hs hpl))
  subst ev
  cases r1 with
  | cons r rr =>
    cases rr with
    | cons r' rr =>
    cases rr
    rename_i u u2
    obtain ⟨st, S⟩ := hv _ r
    obtain ⟨st2, S2⟩ := hv2 _ r'
    obtain ⟨o, Hh, B, hH, hst⟩ := S.beg X pins σ H1 s1 I1 J1.sub
    obtain ⟨o2, Hh2, B2, hH2, hst2⟩ := S2.beg X pins σ H1 s1 I1 J1.sub
    refine zip_begins2 B B2 hH hH2 fun h' hz hTI hTO ho ho2 hsz hk => wpAny_pyIter_zip hz ?_
    have I2 : Inv X pins σ H1 { s1 with heap := h' } := I1.kept (t' := s1.toks) hk
    generalize hn : s1.heap.objs.size = n at *
    refine ⟨n + 4, [n + 4, n + 2, n + 3, n, n + 1], fun i h => IsZip h (n + 4) (n + 2) (n + 3) .none ∧ IsTupOf2 h (n + 2) (.ref n) (.ref (n + 1)) ∧ (∃ a1 a2, IsTupOf2 h (n + 3) a1 a2) ∧ st n i h ∧ st2 (n + 1) i h, ItN F1 (min N1 N2) fun i => [ys i, zs i], H1, rfl, I2, ?_, ⟨hz, hTI, ⟨_, _, hTO⟩, hst _ _ ho, hst2 _ _ ho2⟩, fun b hb => ?_, K _ F1 H1 x1 J1 wk_itN⟩
    · refine turn_new (by simp) (fun i h ⟨q1, q2, ⟨_, _, q3⟩, q4, q5⟩ b hb => ?_) (fun i h h' ⟨q1, q2, ⟨a1, a2, q3⟩, q4, q5⟩ k => ⟨k _ (by simp) _ q1, k _ (by simp) _ q2, ⟨a1, a2, k _ (by simp) _ q3⟩, S.fr _ _ _ _ q4 fun o z => k _ (by simp) o z, S2.fr _ _ _ _ q5 fun o z => k _ (by simp) o z⟩) (fun Y hP hw hd pins s σ H I x hf => ?_) (fun i => by simp) (fun A i s Q E st h => wpAny_pyIter_zip st.1 h)
      · have e' : b = n + 4 ∨ b = n + 2 ∨ b = n + 3 ∨ b = n ∨ b = n + 1 := by simpa using hb
        rcases e' with z | z | z | z | z
        · rw [z]; exact ⟨_, q1, fun v w => nomatch w⟩
        · rw [z]; exact ⟨_, q2, fun v w => nomatch w⟩
        · rw [z]; exact ⟨_, q3, fun v w => nomatch w⟩
        · rw [z]; exact S.ob _ _ _ q4
        · rw [z]; exact S2.ob _ _ _ q5
      · obtain ⟨fpS, Hs, Pd, hb, hHs, D, hP1⟩ := S.at_ Y pins σ H s hd I x
        obtain ⟨fpS2, Hs2, Pd2, hb2, hHs2, D2, hP2⟩ := S2.at_ Y pins σ H s hd I x
        have nin : ∀ b ∈ [n + 4, n + 2, n + 3, n, n + 1], b ∉ fpS := fun b hb1 hb2 => by
          obtain ⟨o, q⟩ := hb b hb2
          rw [(hf b hb1).1] at q
          cases q
        have nin2 : ∀ b ∈ [n + 4, n + 2, n + 3, n, n + 1], b ∉ fpS2 := fun b hb1 hbb => by
          obtain ⟨o, q⟩ := hb2 b hbb
          rw [(hf b hb1).1] at q
          cases q
        have nc : ∀ {j i : Nat} {fp : List Addr}, n + j ∉ fp → j ≠ i → (n + j : Addr) ∉ (n + i) :: fp := fun {j i fp} h1 h2 h3 => by
          rcases List.mem_cons.mp h3 with z | z
          · have z' : (n + j : Nat) = n + i := z
            omega
          · exact h1 z
        have SP : ZipSep2 (n + 4) (n + 2) (n + 3) n (n + 1) (n :: fpS) ((n + 1) :: fpS2) :=
          { TIz := show (n + 2 : Nat) ≠ n + 4 by omega, TOz := show (n + 3 : Nat) ≠ n + 4 by omega, TITO := show (n + 2 : Nat) ≠ n + 3 by omega,
            TIi1 := show (n + 2 : Nat) ≠ n by omega, mem1 := List.mem_cons_self .., zf1 := nc (i := 0) (nin (n + 4) (by simp)) (by omega), Tf1 := nc (i := 0) (nin (n + 3) (by simp)) (by omega),
            TIi2 := show (n + 2 : Nat) ≠ n + 1 by omega, mem2 := List.mem_cons_self .., zf2 := nc (i := 1) (nin2 (n + 4) (by simp)) (by omega), Tf2 := nc (i := 1) (nin2 (n + 3) (by simp)) (by omega),
            sep1_2 := nc (j := 0) (i := 1) (nin2 n (by simp)) (by omega), sep2_1 := nc (j := 1) (i := 0) (nin (n + 1) (by simp)) (by omega) }
        have G := GoesN.zip2 (elts := elts) (x1 := kk) (pos := tpos) SP (D n (nin _ (by simp))) (D2 (n + 1) (nin2 _ (by simp)))
        rw [hP, hw] at G
        refine ⟨_, _, _, _, G, fun b hb => ?_, fun i ⟨q1, q2, q3, q4, q5⟩ => ⟨q1, q2, q3, ⟨q4, hHs⟩, ⟨q5, hHs2⟩⟩, fun i h ⟨q1, q2, q3, q4, q5⟩ => ⟨q1, q2, q3, q4.1, q5.1⟩, fun i h0 v h hi ⟨T, x, y, e1, e2, e3, e4, e5⟩ => ?_⟩
        · simp only [List.mem_cons, List.not_mem_nil, or_false] at hb ⊢
          rcases hb with z | z | z | z
          · exact .inl z
          · exact .inr (.inr (.inl z))
          · exact .inr (.inr (.inr (.inl z)))
          · exact .inr (.inr (.inr (.inr z)))
        · obtain ⟨y1, hy1, hy2⟩ := hP1 i x (Nat.lt_of_lt_of_le hi (Nat.min_le_left _ _)) e3
          obtain ⟨z1, hz1, hz2⟩ := hP2 i y (Nat.lt_of_lt_of_le hi (Nat.min_le_right _ _)) e4
          exact ⟨T, _, [y1, z1], e1, e2, e5, .cons hy1 (.cons hz1 .nil), hy2, hz2, trivial⟩
    · have e' : b = n + 4 ∨ b = n + 2 ∨ b = n + 3 ∨ b = n ∨ b = n + 1 := by simpa using hb
      have hle : n ≤ b := by
        rcases e' with z | z | z | z | z
        · rw [z]; exact Nat.le_add_right _ _
        · rw [z]; exact Nat.le_add_right _ _
        · rw [z]; exact Nat.le_add_right _ _
        · rw [z]; exact Nat.le_refl _
        · rw [z]; exact Nat.le_add_right _ _
      rw [← hn] at hle
      exact I1.fpOk hle (I1.hok.fresh hle)
theorem pi_zip3J {N1 N2 N3 : Nat} {ys zs ws : Nat → Mp} {elts : List Expr} {kk : Nat} {tpos : Pos} (ha : PE X a (rJ e ss (fun F _ u => ∃ st, Src F u N1 ys st) ss1)) (hb : PE X b (rJ e ss1 (fun F _ u => ∃ st, Src F u N2 zs st) ss2)) (hc : PE X c (rJ e ss2 (fun F _ u => ∃ st, Src F u N3 ws st) ss3)) (hm : X.mg "zip" = none) (hg : Gl X "zip" := by rfl)
    (hs : starEach [a, b, c] X.env = (false, eval a X.env) :: starEach [b, c] X.env := by rfl) (hs2 : starEach [b, c] X.env = (false, eval b X.env) :: starEach [c] X.env := by rfl) (hs3 : starEach [c] X.env = (false, eval c X.env) :: starEach [] X.env := by rfl) (hpl : (backTo pos (starEach [b, c] X.env)).any (·.1) = false := by rfl) :
    JI X e (.Tuple elts kk tpos) (.Call (.Name "zip" p) [a, b, c] [] pos) ss (min (min N1 N2) N3) (fun i => mT [ys i, zs i, ws i]) ss3 := by
  refine ⟨fun pins s σ H R I ⟨F, J, K⟩ => ?_⟩
  have ha1 := pa_cons ha (pa_cons hb (pa_cons hc pa_nil hs3) hs2) hs
  refine PyProof.Rows.Call_ (ld_blt I hg hm PyProof.Rows.boot_zip (PyProof.Rows.callWith_type1 (thn (ha1.run pos pins s σ H (fun vs H1 => ∃ v v2 v3 F1, vs = [v, v2, v3] ∧ Ex F F1 ∧ Fit e ss3 σ F1 H1 ∧ (∀ u, RelV v u → ∃ st, Src F1 u N1 ys st) ∧ (∀ u, RelV v2 u → ∃ st, Src F1 u N2 zs st) ∧ ∀ u, RelV v3 u → ∃ st, Src F1 u N3 ws st) I
    ⟨F, J, fun v F1 H1 x1 I1 hv => ⟨F1, I1, fun v2 F2 H2 x2 I2 hv2 => ⟨F2, I2, fun v3 F3 H3 x3 I3 hv3 => ⟨v, v2, v3, F3, rfl, x1.trans (x2.trans x3), I3, fun u r => let ⟨st, S⟩ := hv u r; ⟨st, S.up (x2.trans x3)⟩, fun u r => let ⟨st, S⟩ := hv2 u r; ⟨st, S.up x3⟩, hv3⟩⟩⟩⟩) fun us s1 ⟨vs, H1, I1, r1, v, v2, v3, F1, ev, x1, J1, hv, hv2, hv3⟩ => ?_) hs hpl))
  subst ev
  cases r1 with
  | cons r rr =>
    cases rr with
    | cons r' rr =>
    cases rr with
    | cons r'' rr =>
    cases rr
    rename_i u u2 u3
    obtain ⟨st, S⟩ := hv _ r
    obtain ⟨st2, S2⟩ := hv2 _ r'
    obtain ⟨st3, S3⟩ := hv3 _ r''
    obtain ⟨o, Hh, B, hH, hst⟩ := S.beg X pins σ H1 s1 I1 J1.sub
    obtain ⟨o2, Hh2, B2, hH2, hst2⟩ := S2.beg X pins σ H1 s1 I1 J1.sub
    obtain ⟨o3, Hh3, B3, hH3, hst3⟩ := S3.beg X pins σ H1 s1 I1 J1.sub
    refine zip_begins3 B B2 B3 hH hH2 hH3 fun h' hz hTI hTO ho ho2 ho3 hsz hk => wpAny_pyIter_zip hz ?_
    have I2 : Inv X pins σ H1 { s1 with heap := h' } := I1.kept (t' := s1.toks) hk
    generalize hn : s1.heap.objs.size = n at *
    refine ⟨n + 5, [n + 5, n + 3, n + 4, n, n + 1, n + 2], fun i h => IsZip h (n + 5) (n + 3) (n + 4) .none ∧ IsTupOf3 h (n + 3) (.ref n) (.ref (n + 1)) (.ref (n + 2)) ∧ (∃ a1 a2 a3, IsTupOf3 h (n + 4) a1 a2 a3) ∧ st n i h ∧ st2 (n + 1) i h ∧ st3 (n + 2) i h, ItN F1 (min (min N1 N2) N3) fun i => [ys i, zs i, ws i], H1, rfl, I2, ?_, ⟨hz, hTI, ⟨_, _, _, hTO⟩, hst _ _ ho, hst2 _ _ ho2, hst3 _ _ ho3⟩, fun b hb => ?_, K _ F1 H1 x1 J1 wk_itN⟩
    · refine turn_new (by simp) (fun i h ⟨q1, q2, ⟨_, _, _, q3⟩, q4, q5, q6⟩ b hb => ?_) (fun i h h' ⟨q1, q2, ⟨a1, a2, a3, q3⟩, q4, q5, q6⟩ k => ⟨k _ (by simp) _ q1, k _ (by simp) _ q2, ⟨a1, a2, a3, k _ (by simp) _ q3⟩, S.fr _ _ _ _ q4 fun o z => k _ (by simp) o z, S2.fr _ _ _ _ q5 fun o z => k _ (by simp) o z, S3.fr _ _ _ _ q6 fun o z => k _ (by simp) o z⟩) (fun Y hP hw hd pins s σ H I x hf => ?_) (fun i => by simp) (fun A i s Q E st h => wpAny_pyIter_zip st.1 h)
      · have e' : b = n + 5 ∨ b = n + 3 ∨ b = n + 4 ∨ b = n ∨ b = n + 1 ∨ b = n + 2 := by simpa using hb
        rcases e' with z | z | z | z | z | z
        · rw [z]; exact ⟨_, q1, fun v w => nomatch w⟩
        · rw [z]; exact ⟨_, q2, fun v w => nomatch w⟩
        · rw [z]; exact ⟨_, q3, fun v w => nomatch w⟩
        · rw [z]; exact S.ob _ _ _ q4
        · rw [z]; exact S2.ob _ _ _ q5
        · rw [z]; exact S3.ob _ _ _ q6
      · obtain ⟨fpS, Hs, Pd, hb, hHs, D, hP1⟩ := S.at_ Y pins σ H s hd I x
        obtain ⟨fpS2, Hs2, Pd2, hb2, hHs2, D2, hP2⟩ := S2.at_ Y pins σ H s hd I x
        obtain ⟨fpS3, Hs3, Pd3, hb3, hHs3, D3, hP3⟩ := S3.at_ Y pins σ H s hd I x
        have nin : ∀ b ∈ [n + 5, n + 3, n + 4, n, n + 1, n + 2], b ∉ fpS := fun b hb1 hb2 => by
          obtain ⟨o, q⟩ := hb b hb2
          rw [(hf b hb1).1] at q
          cases q
        have nin2 : ∀ b ∈ [n + 5, n + 3, n + 4, n, n + 1, n + 2], b ∉ fpS2 := fun b hb1 hbb => by
          obtain ⟨o, q⟩ := hb2 b hbb
          rw [(hf b hb1).1] at q
          cases q
        have nin3 : ∀ b ∈ [n + 5, n + 3, n + 4, n, n + 1, n + 2], b ∉ fpS3 := fun b hb1 hbb => by
          obtain ⟨o, q⟩ := hb3 b hbb
          rw [(hf b hb1).1] at q
          cases q
        have nc : ∀ {j i : Nat} {fp : List Addr}, n + j ∉ fp → j ≠ i → (n + j : Addr) ∉ (n + i) :: fp := fun {j i fp} h1 h2 h3 => by
          rcases List.mem_cons.mp h3 with z | z
          · have z' : (n + j : Nat) = n + i := z
            omega
          · exact h1 z
        have SP : ZipSep3 (n + 5) (n + 3) (n + 4) n (n + 1) (n + 2) (n :: fpS) ((n + 1) :: fpS2) ((n + 2) :: fpS3) :=
          { TIz := show (n + 3 : Nat) ≠ n + 5 by omega, TOz := show (n + 4 : Nat) ≠ n + 5 by omega, TITO := show (n + 3 : Nat) ≠ n + 4 by omega,
            TIi1 := show (n + 3 : Nat) ≠ n by omega, mem1 := List.mem_cons_self .., zf1 := nc (i := 0) (nin (n + 5) (by simp)) (by omega), Tf1 := nc (i := 0) (nin (n + 4) (by simp)) (by omega),
            TIi2 := show (n + 3 : Nat) ≠ n + 1 by omega, mem2 := List.mem_cons_self .., zf2 := nc (i := 1) (nin2 (n + 5) (by simp)) (by omega), Tf2 := nc (i := 1) (nin2 (n + 4) (by simp)) (by omega),
            TIi3 := show (n + 3 : Nat) ≠ n + 2 by omega, mem3 := List.mem_cons_self .., zf3 := nc (i := 2) (nin3 (n + 5) (by simp)) (by omega), Tf3 := nc (i := 2) (nin3 (n + 4) (by simp)) (by omega),
            sep1_2 := nc (j := 0) (i := 1) (nin2 n (by simp)) (by omega), sep1_3 := nc (j := 0) (i := 2) (nin3 n (by simp)) (by omega), sep2_1 := nc (j := 1) (i := 0) (nin (n + 1) (by simp)) (by omega),
            sep2_3 := nc (j := 1) (i := 2) (nin3 (n + 1) (by simp)) (by omega), sep3_1 := nc (j := 2) (i := 0) (nin (n + 2) (by simp)) (by omega), sep3_2 := nc (j := 2) (i := 1) (nin2 (n + 2) (by simp)) (by omega) }
        have G := GoesN.zip3 (elts := elts) (x1 := kk) (pos := tpos) SP (D n (nin _ (by simp))) (D2 (n + 1) (nin2 _ (by simp))) (D3 (n + 2) (nin3 _ (by simp)))
        rw [hP, hw] at G
        refine ⟨_, _, _, _, G, fun b hb => ?_, fun i ⟨q1, q2, q3, q4, q5, q6⟩ => ⟨q1, q2, q3, ⟨q4, hHs⟩, ⟨q5, hHs2⟩, ⟨q6, hHs3⟩⟩, fun i h ⟨q1, q2, q3, q4, q5, q6⟩ => ⟨q1, q2, q3, q4.1, q5.1, q6.1⟩, fun i h0 v h hi ⟨T, x, y, u, e1, e2, e3, e4, e6, e5⟩ => ?_⟩
        · simp only [List.mem_cons, List.not_mem_nil, or_false] at hb ⊢
          rcases hb with z | z | z | z | z
          · exact .inl z
          · exact .inr (.inr (.inl z))
          · exact .inr (.inr (.inr (.inl z)))
          · exact .inr (.inr (.inr (.inr (.inl z))))
          · exact .inr (.inr (.inr (.inr (.inr z))))
        · have l1 := Nat.lt_of_lt_of_le hi (Nat.min_le_left _ _)
          obtain ⟨y1, hy1, hy2⟩ := hP1 i x (Nat.lt_of_lt_of_le l1 (Nat.min_le_left _ _)) e3
          obtain ⟨z1, hz1, hz2⟩ := hP2 i y (Nat.lt_of_lt_of_le l1 (Nat.min_le_right _ _)) e4
          obtain ⟨w1, hw1, hw2⟩ := hP3 i u (Nat.lt_of_lt_of_le hi (Nat.min_le_right _ _)) e6
          exact ⟨T, _, [y1, z1, w1], e1, e2, e5, .cons hy1 (.cons hz1 (.cons hw1 .nil)), hy2, hz2, hw2, trivial⟩
    · have e' : b = n + 5 ∨ b = n + 3 ∨ b = n + 4 ∨ b = n ∨ b = n + 1 ∨ b = n + 2 := by simpa using hb
      have hle : n ≤ b := by
        rcases e' with z | z | z | z | z | z
        · rw [z]; exact Nat.le_add_right _ _
        · rw [z]; exact Nat.le_add_right _ _
        · rw [z]; exact Nat.le_add_right _ _
        · rw [z]; exact Nat.le_refl _
        · rw [z]; exact Nat.le_add_right _ _
        · rw [z]; exact Nat.le_add_right _ _
      rw [← hn] at hle
      exact I1.fpOk hle (I1.hok.fresh hle)
end Jd

/-! text J10 -/
set_option Elab.async false
set_option linter.all false
set_option maxRecDepth 100000
set_option maxHeartbeats 4000000
namespace Jd
open PySem L2
variable {X : Cx} {e : En} {ss ss' ss1 ss2 ss3 : List Slot} {σ : St} {F F' H H' : Hp} {a b c x y : Expr} {pos p q : Pos} {m n o : Mp} {i j : Int} {ms : List Mp}

/-! ### keys -/
mutual
def keyP (H : Hp) : NestedKey → V → Prop
  | .none, v => v = .non
  | .num i, v => v = .int i
  | .text z, v => v = .str z
  | .tup ks, v => ∃ a vs, v = .ref a ∧ H a = some (.tup vs) ∧ keysP H ks vs
def keysP (H : Hp) : List NestedKey → List V → Prop
  | [], vs => vs = []
  | k :: ks, vs => ∃ v r, vs = v :: r ∧ keyP H k v ∧ keysP H ks r
end
mutual
theorem keyP_up (x : Ex H H') : ∀ (k : NestedKey) (v : V), keyP H k v → keyP H' k v
  | .none, v, h => by rw [keyP] at h ⊢; exact h
  | .num i, v, h => by rw [keyP] at h ⊢; exact h
  | .text z, v, h => by rw [keyP] at h ⊢; exact h
  | .tup ks, v, h => by
    rw [keyP] at h ⊢
    obtain ⟨a, vs, h1, h2, h3⟩ := h
    exact ⟨a, vs, h1, x _ _ h2, keysP_up x ks vs h3⟩
theorem keysP_up (x : Ex H H') : ∀ (ks : List NestedKey) (vs : List V), keysP H ks vs → keysP H' ks vs
  | [], vs, h => by rw [keysP] at h ⊢; exact h
  | k :: ks, vs, h => by
    rw [keysP] at h ⊢
    obtain ⟨v, r, h1, h2, h3⟩ := h
    exact ⟨v, r, h1, keyP_up x k v h2, keysP_up x ks r h3⟩
end
mutual
theorem keyP_is {pins : List (Addr × Obj)} {s : Shared} (I : Inv X pins σ H s) : ∀ (k : NestedKey) (v : V) (u : Value), keyP H k v → RelV v u → NestedIs s.heap k u
  | .none, v, u, h, r => by
    rw [keyP] at h
    subst h
    rw [show u = Value.none from r]
    exact .none
  | .num i, v, u, h, r => by
    rw [keyP] at h
    subst h
    obtain ⟨t, rfl⟩ := r
    exact .int i t
  | .text z, v, u, h, r => by
    rw [keyP] at h
    subst h
    obtain ⟨t, rfl⟩ := r
    exact .text z t
  | .tup ks, v, u, h, r => by
    rw [keyP] at h
    obtain ⟨a, vs, rfl, h2, h3⟩ := h
    rw [show u = Value.ref a from r]
    obtain ⟨its, rv, ⟨o, q1, q2, q3, q4⟩, _⟩ := I.tuple (xs := vs) (.inl (.inl h2))
    exact .tup q1 q2 q4 (keysP_is I ks vs its h3 rv)
theorem keysP_is {pins : List (Addr × Obj)} {s : Shared} (I : Inv X pins σ H s) : ∀ (ks : List NestedKey) (vs : List V) (us : List Value), keysP H ks vs → Vals vs us → NestedAll s.heap ks us
  | [], vs, us, h, r => by
    rw [keysP] at h
    subst h
    cases r
    exact .nil
  | k :: ks, vs, us, h, r => by
    rw [keysP] at h
    obtain ⟨v, rr, rfl, h1, h2⟩ := h
    cases r with
    | cons r1 r2 => exact .cons (keyP_is I k _ _ h1 r1) (keysP_is I ks _ _ h2 r2)
end
/-- such values are this key -/
def KeyOf (m : Mp) (k : NestedKey) : Prop := k.depth ≤ 8 ∧ ∀ H v, m.p H v → keyP H k v
theorem keysP_of {f : List NestedKey} : ∀ {ms : List Mp} {ks : List NestedKey} {H : Hp} {vs : List V}, (∀ (i : Nat) m k, ms[i]? = some m → ks[i]? = some k → ∀ H v, m.p H v → keyP H k v) → ms.length = ks.length → allP H ms vs → keysP H ks vs
  | [], [], H, [], _, _, _ => by rw [keysP]
  | m :: ms, k :: ks, H, v :: vs, h, hl, hA => by
    rw [keysP]
    exact ⟨v, vs, rfl, h 0 m k rfl rfl H v hA.1, keysP_of (f := f) (fun i m k h1 h2 => h (i + 1) m k h1 h2) (Nat.succ.inj hl) hA.2⟩
  | [], _ :: _, _, _, _, hl, _ => nomatch hl
  | _ :: _, [], _, _, _, hl, _ => nomatch hl
  | [], [], _, _ :: _, _, _, hA => hA.elim
  | _ :: _, _ :: _, _, [], _, _, hA => hA.elim
def numKey (ns : List Int) : NestedKey := .tup (ns.map .num)
theorem depth_nums : ∀ ns : List Int, NestedKey.depthAll (ns.map .num) = 0
  | [] => rfl
  | n :: ns => by
    show max (NestedKey.depth (.num n)) (NestedKey.depthAll (ns.map .num)) = 0
    rw [depth_nums ns]
    rfl
theorem keyOf_nums {ns : List Int} : KeyOf (mT (ns.map mInt)) (numKey ns) := by
  refine ⟨?_, fun H v h => ?_⟩
  · show NestedKey.depthAll (ns.map .num) + 1 ≤ 8
    rw [depth_nums]
    decide
  · obtain ⟨a, vs, rfl, h1, h2⟩ := h
    unfold numKey
    rw [keyP]
    refine ⟨a, vs, rfl, h1, keysP_of (f := []) (fun i m k e1 e2 H v hm => ?_) (by rw [List.length_map, List.length_map]) h2⟩
    rw [List.getElem?_map] at e1 e2
    cases z : ns[i]? with
    | none => rw [z] at e1; cases e1
    | some w =>
      rw [z] at e1 e2
      cases e1; cases e2
      rw [keyP]
      exact hm
theorem numKey_inj {xs ys : List Int} (h : numKey xs = numKey ys) : xs = ys := by
  unfold numKey at h
  injection h with h
  have : ∀ (xs ys : List Int), xs.map NestedKey.num = ys.map NestedKey.num → xs = ys := by
    intro xs
    induction xs with
    | nil => intro ys h; cases ys with
      | nil => rfl
      | cons => cases h
    | cons x xs ih => intro ys h; cases ys with
      | nil => cases h
      | cons y ys =>
        injection h with h1 h2
        injection h1 with h1
        rw [h1, ih ys h2]
  exact this xs ys h

/-! ### dicts with such keys -/
/-- the dict's own object: keys, where their tuples stand, ints -/
def phiN (w : World) (d : Addr) (xs : List (NestedKey × Addr × Int)) : Heap → Prop := fun h => ∃ o es ep, h.get? d = some o ∧ o.ExactDict ∧ o.data = .dict es ep ∧
  Paired (fun (x : NestedKey × Addr × Int) (en : DictEntry) => en.hash = x.1.hash w ∧ en.key = .ref x.2.1 ∧ RelV (.int x.2.2) en.val) xs es.toList ∧ (xs.map (·.1)).Nodup ∧ (d == sysModules) = false ∧ xs.length ≤ 100000
def hoN (w : World) (d : Addr) (xs : List (NestedKey × Addr × Int)) : HO := .ext (phiN w d xs)
def oN (w : World) (kvs : List (NestedKey × Int)) : Mo := ⟨fun F d o => ∃ xs : List (NestedKey × Addr × Int), xs.map (fun x => (x.1, x.2.2)) = kvs ∧ o = hoN w d xs ∧ ∀ x ∈ xs, keyP F x.1 (.ref x.2.1) ∧ x.1.depth ≤ 8, fun {H H' a o} up h => by
  obtain ⟨xs, h1, h2, h3⟩ := h
  exact ⟨xs, h1, h2, fun x hx => ⟨keyP_up up _ _ (h3 x hx).1, (h3 x hx).2⟩⟩⟩
theorem paired_map {α β : Type} {R : α → β → Prop} {f : α → β} : ∀ {xs : List α} {ys : List β}, Paired R xs ys → (∀ x y, x ∈ xs → R x y → y = f x) → ys = xs.map f
  | [], _, .nil, _ => rfl
  | x :: xs, _, .cons h r, k => by
    rw [List.map_cons, k x _ List.mem_cons_self h, ← paired_map r fun x y hx => k x y (List.mem_cons_of_mem _ hx)]
theorem paired_ex {xs : List (NestedKey × Addr × Int)} {w : World} : ∀ {xs : List (NestedKey × Addr × Int)} {es : List DictEntry}, Paired (fun (x : NestedKey × Addr × Int) (en : DictEntry) => en.hash = x.1.hash w ∧ en.key = .ref x.2.1 ∧ RelV (.int x.2.2) en.val) xs es →
    ∃ ys : List (NestedKey × Addr × Value), Paired (fun (x : NestedKey × Addr × Int) (y : NestedKey × Addr × Value) => x.1 = y.1 ∧ x.2.1 = y.2.1 ∧ RelV (.int x.2.2) y.2.2) xs ys ∧ es = ys.map (fun y => (⟨y.1.hash w, .ref y.2.1, y.2.2⟩ : DictEntry))
  | [], _, .nil => ⟨[], .nil, rfl⟩
  | x :: xs, en :: es, .cons h r => by
    obtain ⟨ys, h1, h2⟩ := paired_ex (xs := xs) (w := w) r
    obtain ⟨a, b, c⟩ := h
    refine ⟨(x.1, x.2.1, en.val) :: ys, .cons ⟨rfl, rfl, c⟩ h1, ?_⟩
    rw [h2, List.map_cons, ← a, ← b]
theorem paired_len {α β : Type} {R : α → β → Prop} {xs : List α} {ys : List β} (h : Paired R xs ys) : xs.length = ys.length := Paired.length h
/-- the library's word of it -/
theorem dictN {pins : List (Addr × Obj)} {s : Shared} {d : Addr} {kvs : List (NestedKey × Int)} {o : HO} (I : Inv X pins σ H s) (x : Ex F H) (hd : H d = some o) (h : (oN X.w kvs).p F d o) :
    ∃ (xs : List (NestedKey × Addr × Int)) (ys : List (NestedKey × Addr × Value)), xs.map (fun x => (x.1, x.2.2)) = kvs ∧ o = hoN X.w d xs ∧ (∀ x ∈ xs, keyP F x.1 (.ref x.2.1) ∧ x.1.depth ≤ 8) ∧ (d == sysModules) = false ∧ xs.length ≤ 100000 ∧
      Paired (fun (x : NestedKey × Addr × Int) (y : NestedKey × Addr × Value) => x.1 = y.1 ∧ x.2.1 = y.2.1 ∧ RelV (.int x.2.2) y.2.2) xs ys ∧ s.heap.DictOfH (nestedKind X.prog X.w) d ys := by
  obtain ⟨xs, h1, rfl, h3⟩ := h
  obtain ⟨⟨ob, es, ep, q1, q2, q3, q4, q5, q6, q7⟩, _, _⟩ := I.hok d _ hd
  obtain ⟨ys, p1, p2⟩ := paired_ex (xs := xs) q4
  have hk : ys.map (·.1) = xs.map (·.1) := by
    have : ∀ {xs : List (NestedKey × Addr × Int)} {ys : List (NestedKey × Addr × Value)}, Paired (fun (x : NestedKey × Addr × Int) (y : NestedKey × Addr × Value) => x.1 = y.1 ∧ x.2.1 = y.2.1 ∧ RelV (.int x.2.2) y.2.2) xs ys → ys.map (·.1) = xs.map (·.1) := by
      intro xs ys h
      induction h with
      | nil => rfl
      | cons h _ ih => rw [List.map_cons, List.map_cons, ih, h.1]
    exact this p1
  refine ⟨xs, ys, h1, rfl, h3, q6, q7, p1, ob, es, ep, q1, q2, q3, p2, fun y hy => ?_, by rw [hk]; exact q5⟩
  have : ∀ {xs : List (NestedKey × Addr × Int)} {ys : List (NestedKey × Addr × Value)}, Paired (fun (x : NestedKey × Addr × Int) (y : NestedKey × Addr × Value) => x.1 = y.1 ∧ x.2.1 = y.2.1 ∧ RelV (.int x.2.2) y.2.2) xs ys → ∀ y ∈ ys, ∃ x ∈ xs, x.1 = y.1 ∧ x.2.1 = y.2.1 := by
    intro xs ys h
    induction h with
    | nil => intro y hy; cases hy
    | cons h _ ih =>
      intro y hy
      rcases List.mem_cons.mp hy with z | z
      · subst z; exact ⟨_, List.mem_cons_self, h.1, h.2.1⟩
      · obtain ⟨x, hx, r⟩ := ih y z; exact ⟨x, List.mem_cons_of_mem _ hx, r⟩
  obtain ⟨x0, hx, e1, e2⟩ := this p1 y hy
  obtain ⟨k1, k2⟩ := h3 x0 hx
  rw [← e1, ← e2]
  exact ⟨keyP_is I _ _ _ (keyP_up x _ _ k1) rfl, k2⟩
/-- look-up -/
def getN (kvs : List (NestedKey × Int)) (k : NestedKey) : Option Int := (kvs.find? fun p => decide (p.1 = k)).map (·.2)
theorem getN_at {kvs : List (NestedKey × Int)} {k : NestedKey} : ∀ {xs : List (NestedKey × Addr × Int)} {ys : List (NestedKey × Addr × Value)}, Paired (fun (x : NestedKey × Addr × Int) (y : NestedKey × Addr × Value) => x.1 = y.1 ∧ x.2.1 = y.2.1 ∧ RelV (.int x.2.2) y.2.2) xs ys →
    (match getN (xs.map fun x => (x.1, x.2.2)) k with
      | some v => ∃ p, atKey ys k = some p ∧ RelV (.int v) p.2
      | none => atKey ys k = none)
  | [], _, .nil => by
    show atKey [] k = none
    rfl
  | x :: xs, y :: ys, .cons h r => by
    have ih := getN_at (kvs := kvs) (k := k) r
    obtain ⟨h1, h2, h3⟩ := h
    unfold getN atKey at ih ⊢
    rw [List.map_cons, List.find?_cons, List.find?_cons]
    by_cases z : x.1 = k
    · have z' : y.1 = k := by rw [← h1]; exact z
      rw [decide_eq_true (show ((x.1, x.2.2) : NestedKey × Int).1 = k from z), decide_eq_true z']
      exact ⟨y.2, rfl, h3⟩
    · have z' : ¬ y.1 = k := by rw [← h1]; exact z
      rw [decide_eq_false (show ¬ ((x.1, x.2.2) : NestedKey × Int).1 = k from z), decide_eq_false z']
      exact ih
/-- k not in d -/
def tNIn (neg : Bool) (w : World) (A : Around) (te td : TE) : TE := fun σ H Q => te σ H fun v H1 => td σ H1 fun u H2 => ∃ (d : Addr) (kvs : List (NestedKey × Int)) (k : NestedKey) (o : HO) (F : Hp), u = .ref d ∧ Ex F H2 ∧ H2 d = some o ∧ (oN w kvs).p F d o ∧ keyP F k v ∧ k.depth ≤ 8 ∧ (∃ a, v = .ref a) ∧
  Q (.bl (if neg then !(getN kvs k).isSome else (getN kvs k).isSome)) H2
theorem isSome_atKey {k : NestedKey} {xs : List (NestedKey × Addr × Int)} {ys : List (NestedKey × Addr × Value)} (h : Paired (fun (x : NestedKey × Addr × Int) (y : NestedKey × Addr × Value) => x.1 = y.1 ∧ x.2.1 = y.2.1 ∧ RelV (.int x.2.2) y.2.2) xs ys) :
    (atKey ys k).isSome = (getN (xs.map fun x => (x.1, x.2.2)) k).isSome := by
  have g := getN_at (kvs := []) (k := k) h
  cases z : getN (xs.map fun x => (x.1, x.2.2)) k with
  | none => rw [z] at g; rw [show atKey ys k = none from g]; rfl
  | some v => rw [z] at g; obtain ⟨p, hp, _⟩ := g; rw [hp]; rfl
theorem pc_nnotin {td te : TE} (hu : X.A.units + 9 < cLine) (hi : PE X x te) (ho : PE X y td) : PC X .NotIn x y (tNIn true X.w X.A te td) := by
  refine ⟨fun pins s σ H Q I h => ?_⟩
  refine thn (hi.run pins s σ H _ I h) fun iv s1 ⟨v, H1, I1, ry, q1⟩ => thn (ho.run pins s1 σ H1 _ I1 q1) fun u s2 ⟨w, H2, I2, rx, d, kvs, k, o, F, ex, hF, hd, hN, hk, hdp, ⟨a, ha⟩, q2⟩ => ?_
  subst ex
  subst ha
  obtain rfl : u = Value.ref d := rx
  obtain rfl : iv = Value.ref a := ry
  obtain ⟨xs, ys, e1, e2, e3, e4, e5, e6, e7⟩ := dictN I2 hF hd hN
  refine notIn_keyed (knd := nestedKind X.prog X.w) (kvs := pairsH ys) (by show X.A.units + 1 + 8 < cLine; omega) ⟨keyP_is I2 k _ _ (keyP_up hF _ _ hk) rfl, hdp⟩ e4 ⟨ys, e7, rfl⟩ ?_
  refine ⟨_, H2, I2.tok _, ?_, q2⟩
  show Value.bool _ = Value.bool _
  rw [valueAt_pairsH, Option.isSome_map, isSome_atKey e6, e1]
  rfl
def tNGet (w : World) (td te : TE) : TE := fun σ H Q => td σ H fun u H1 => te σ H1 fun v H2 => ∃ (d : Addr) (kvs : List (NestedKey × Int)) (k : NestedKey) (o : HO) (F : Hp) (i : Int), u = .ref d ∧ Ex F H2 ∧ H2 d = some o ∧ (oN w kvs).p F d o ∧ keyP F k v ∧ k.depth ≤ 8 ∧ (∃ a, v = .ref a) ∧
  getN kvs k = some i ∧ Q (.int i) H2
theorem pe_nget {td te : TE} (hu : X.A.units + 9 < cLine) (ho : PE X x td) (hi : PE X y te) (hs : NoSl y) : PE X (.Subscript x y pos) (tNGet X.w td te) := by
  refine ⟨fun pins s σ H Q I h => ?_⟩
  refine subD_of PySem.F.slot_dict_getitem.lookup hs (thn (ho.run pins s σ H _ I h) fun u s1 ⟨v0, H1, I1, rx, q1⟩ => thn (hi.run pins s1 σ H1 _ I1 q1) fun iv s2 ⟨v, H2, I2, ry, d, kvs, k, o, F, i, ex, hF, hd, hN, hk, hdp, ⟨a, ha⟩, hg, q2⟩ => ?_)
  subst ex
  subst ha
  obtain rfl : u = Value.ref d := rx
  obtain rfl : iv = Value.ref a := ry
  obtain ⟨xs, ys, e1, e2, e3, e4, e5, e6, e7⟩ := dictN I2 hF hd hN
  have g := getN_at (kvs := []) (k := k) e6
  rw [e1, hg] at g
  obtain ⟨pr, hp, rp⟩ := g
  refine ⟨e7.typeIs, ?_⟩
  refine getItem_keyed (knd := nestedKind X.prog X.w) (kvs := pairsH ys) (by show X.A.units + 1 + 8 < cLine; omega) ⟨keyP_is I2 k _ _ (keyP_up hF _ _ hk) rfl, hdp⟩ ⟨ys, e7, rfl⟩ (v := pr.2) (by rw [valueAt_pairsH, hp]; rfl) ?_
  exact ⟨_, H2, I2.tok _, rp, q2⟩
/-! ### by slots -/
theorem jt_nnotin {i : Nat} {nm : Str} {kvs : List (NestedKey × Int)} {k : NestedKey} (hu : X.A.units + 9 < cLine) (he : JE X e x ss m ss1) (hk : KeyOf m k) (ht : ∃ ks, k = .tup ks) (hs : ss1[i]? = some (.own (oN X.w kvs))) (hN : X.N[i]? = some nm)
    (hv : Vis X.env.scope nm := by first | exact Or.inl rfl | exact Or.inr (Or.inl rfl) | exact Or.inr (Or.inr rfl)) (hd : (nm == ("__debug__" : Str)) = false := by decide) (hcd : (nm == ("__classdict__" : Str)) = false := by decide)
    (h1 : behindInMarks .NotIn (.Name nm p) = false := by rfl) : JT X e (.Compare x [.NotIn] [.Name nm p] pos) ss (!(getN kvs k).isSome) ss1 :=
  PT_mono (pt_cmp (pc_nnotin hu he (pe_var (i := i) hN hv hd hcd)) h1) fun σ H Q ⟨F, I, K⟩ => ⟨F, I, fun v F1 H1 x1 I1 hm => by
    obtain ⟨o, q1, d, u, rfl, q2, q3, _, _, q4⟩ := I1.at_ i _ hs
    refine ⟨_, q1, d, kvs, k, u, F1, rfl, I1.sub, q2, q4, hk.2 _ _ hm, hk.1, ?_, _, rfl, K F1 H1 x1 I1⟩
    obtain ⟨ks, rfl⟩ := ht
    have := hk.2 _ _ hm
    rw [keyP] at this
    obtain ⟨a, vs, h, _⟩ := this
    exact ⟨a, h⟩⟩
theorem je_nget {i : Nat} {nm : Str} {kvs : List (NestedKey × Int)} {k : NestedKey} {r : Int} (hu : X.A.units + 9 < cLine) (he : JE X e y ss m ss1) (hk : KeyOf m k) (ht : ∃ ks, k = .tup ks) (hs : ss1[i]? = some (.own (oN X.w kvs))) (hs0 : ∃ m, ss[i]? = some (.own m)) (hg : getN kvs k = some r) (hN : X.N[i]? = some nm)
    (hv : Vis X.env.scope nm := by first | exact Or.inl rfl | exact Or.inr (Or.inl rfl) | exact Or.inr (Or.inr rfl)) (hd : (nm == ("__debug__" : Str)) = false := by decide) (hcd : (nm == ("__classdict__" : Str)) = false := by decide) (hsl : NoSl y := by intro _ _; rfl) :
    JE X e (.Subscript (.Name nm p) y pos) ss (mInt r) ss1 :=
  PE_mono (pe_nget hu (pe_var (i := i) hN hv hd hcd) he hsl) fun σ H Q ⟨F, I, K⟩ => by
    obtain ⟨m0, hs0⟩ := hs0
    obtain ⟨o, q1, d0, u0, rfl, _⟩ := I.at_ i _ hs0
    refine ⟨_, q1, F, I, fun v F1 H1 x1 I1 hm => ?_⟩
    obtain ⟨o, r1, d, u, rfl, q2, q3, _, _, q4⟩ := I1.at_ i _ hs
    rw [q1] at r1; cases r1
    refine ⟨_, kvs, k, u, F1, r, rfl, I1.sub, q2, q4, hk.2 _ _ hm, hk.1, ?_, hg, K _ F1 H1 x1 I1 rfl⟩
    obtain ⟨ks, rfl⟩ := ht
    have := hk.2 _ _ hm
    rw [keyP] at this
    obtain ⟨a, vs, h, _⟩ := this
    exact ⟨a, h⟩
end Jd

/-! text J11 -/
set_option Elab.async false
set_option linter.all false
set_option maxRecDepth 100000
set_option maxHeartbeats 4000000
namespace Jd
open PySem L2
variable {X : Cx} {e : En} {ss ss' ss1 ss2 ss3 : List Slot} {σ : St} {F F' H H' : Hp} {a b c x y : Expr} {pos p q : Pos} {m n o : Mp} {i j : Int} {ms : List Mp}
theorem paired_snoc {α β : Type} {R : α → β → Prop} {u : α} {v : β} (h : R u v) : ∀ {xs : List α} {ys : List β}, Paired R xs ys → Paired R (xs ++ [u]) (ys ++ [v])
  | [], _, .nil => .cons h .nil
  | _ :: _, _, .cons a r => .cons a (paired_snoc h r)
theorem paired_mapR {α β γ : Type} {R : α → β → Prop} {S : α → γ → Prop} {f : β → γ} (k : ∀ a b, R a b → S a (f b)) : ∀ {xs : List α} {ys : List β}, Paired R xs ys → Paired S xs (ys.map f)
  | [], _, .nil => .nil
  | _ :: _, _, .cons a r => .cons (k _ _ a) (paired_mapR k r)
/-- the dict's object from the library's word -/
theorem objN {P : Program} {w : World} {h : Heap} {d : Addr} {xs : List (NestedKey × Addr × Int)} {ys : List (NestedKey × Addr × Value)} (hp : Paired (fun (x : NestedKey × Addr × Int) (y : NestedKey × Addr × Value) => x.1 = y.1 ∧ x.2.1 = y.2.1 ∧ RelV (.int x.2.2) y.2.2) xs ys)
    (hd : h.DictOfH (nestedKind P w) d ys) (hs : (d == sysModules) = false) (hl : xs.length ≤ 100000) : phiN w d xs h := by
  obtain ⟨o, es, ep, q1, q2, q3, q4, q5, q6⟩ := hd
  have hk : ys.map (·.1) = xs.map (·.1) := by
    have : ∀ {xs : List (NestedKey × Addr × Int)} {ys : List (NestedKey × Addr × Value)}, Paired (fun (x : NestedKey × Addr × Int) (y : NestedKey × Addr × Value) => x.1 = y.1 ∧ x.2.1 = y.2.1 ∧ RelV (.int x.2.2) y.2.2) xs ys → ys.map (·.1) = xs.map (·.1) := by
      intro xs ys h
      induction h with
      | nil => rfl
      | cons h _ ih => rw [List.map_cons, List.map_cons, ih, h.1]
    exact this hp
  refine ⟨o, es, ep, q1, q2, q3, ?_, by rw [← hk]; exact q6, hs, hl⟩
  rw [q4]
  exact paired_mapR (fun x y ⟨h1, h2, h3⟩ => ⟨by rw [h1]; rfl, by rw [h2]; rfl, h3⟩) hp
theorem extN {P : Program} {w : World} {H : Hp} {h : Heap} {d : Addr} {xs : List (NestedKey × Addr × Int)} (hp : phiN w d xs h) : ObjOk P w H h d (hoN w d xs) :=
  ⟨hp, let ⟨o, _, _, q, _⟩ := hp; ⟨o, q⟩, fun h1 h2 ⟨o, es, ep, q, r⟩ k => ⟨o, es, ep, k o q, r⟩⟩
theorem sysM {pins : List (Addr × Obj)} {s : Shared} (I : Inv X pins σ H s) : (s.heap.objs.size == sysModules) = false := by
  have h := dk_empty (P := X.prog) (w := X.w) (H := H) s.heap I.big
  exact h.2.1
/-- {} whose keys will be tuples -/
def tDNewN (w : World) : TE := fun _ H Q => ∀ d, H d = none → Q (.ref d) (upd H d (hoN w d []))
theorem phiN_nil {P : Program} {w : World} {h : Heap} (hs : (h.objs.size == sysModules) = false) : phiN w h.objs.size [] (h.push { cls := .type "dict", data := .dict #[] }) :=
  objN (P := P) .nil (Heap.DictOfH.new h) hs (Nat.zero_le _)
theorem pe_dnewN : PE X (.Dict [] [] pos) (tDNewN X.w) := ⟨fun pins s σ H Q I h =>
  wpAny_Dict_empty ⟨.ref s.heap.objs.size, _, I.laid (a := s.heap.objs.size) (t' := s.toks) (fun _ _ q => Heap.get?_push_of_some _ q) (Nat.le_refl _) (extN (phiN_nil (P := X.prog) (sysM I))), rfl, h _ (I.hok.fresh (Nat.le_refl _))⟩⟩
theorem jo_dnewN : JO X e (.Dict [] [] pos) ss (oN X.w []) ss := PE_mono pe_dnewN fun σ H Q ⟨F, I, k⟩ => fun d hd => k d F _ Ex.rfl (I.grow hd) (Own1.lay I hd ⟨[], rfl, rfl, fun x hx => nomatch hx⟩)
/-- d[k] = v, k a new key -/
def tNPut (w : World) (td te tv : TE) : TS := fun D σ H => tv σ H fun v H1 => td σ H1 fun u H2 => te σ H2 fun kv H3 => ∃ (d a : Addr) (kvs : List (NestedKey × Int)) (k : NestedKey) (o : HO) (F : Hp) (i : Int), u = .ref d ∧ kv = .ref a ∧ v = .int i ∧ Ex F H3 ∧ H3 d = some o ∧ (oN w kvs).p F d o ∧ keyP F k (.ref a) ∧ k.depth ≤ 8 ∧ getN kvs k = none ∧ kvs.length < 100000 ∧
  ∀ o', (oN w (kvs ++ [(k, i)])).p F d o' → D.nx σ (upd H3 d o')
theorem ps_nput {td te tv : TE} {value : Expr} {pos' : Pos} (hu : X.A.units + 9 < cLine) (ho : PE X x td) (hi : PE X y te) (hv : PE X value tv) (hs : swapsWith value (some (.Subscript x y pos')) pos.line X.env = pure false) :
    PS X (.Assign [.Subscript x y pos'] value pos) (tNPut X.w td te tv) := by
  refine ⟨fun pins s σ H D I h => ?_⟩
  refine wpAny_Assign_Subscript (thn (hv.run pins s σ H _ I h) fun r s1 ⟨v, H1, I1, rv, q1⟩ => thn (ho.run pins s1 σ H1 _ I1 q1) fun u s2 ⟨xv, H2, I2, rx, q2⟩ => thn (hi.run pins s2 σ H2 _ I2 q2) fun iv s3 ⟨kv, H3, I3, ry, d, a, kvs, k, o, F, i, e1, e2, e3, hF, hd, hN, hk, hdp, hg, hl, q3⟩ => ?_) hs
  subst e1; subst e2; subst e3
  obtain rfl : u = Value.ref d := rx
  obtain rfl : iv = Value.ref a := ry
  obtain ⟨xs, ys, f1, f2, f3, f4, f5, f6, f7⟩ := dictN I3 hF hd hN
  have hxl : xs.length = kvs.length := by rw [← f1, List.length_map]
  have hyl : ys.length ≤ sizeLine := by rw [← paired_len f6]; exact Evl.sz_of f5
  have g := getN_at (kvs := []) (k := k) f6
  rw [f1, hg] at g
  refine wpAny_setItem_heap (hsz := hyl) (knd := nestedKind X.prog X.w) (by show X.A.units + 1 + 8 < cLine; omega) ⟨keyP_is I3 k _ _ (keyP_up hF _ _ hk) rfl, hdp⟩ f7 fun h' dd' hs' => ?_
  rw [storedH_new g] at dd'
  have ph := objN (xs := xs ++ [(k, a, i)]) (paired_snoc ⟨rfl, rfl, rv⟩ f6) dd' f4 (by rw [List.length_append, hxl]; exact hl)
  have he : ∃ q, h'.get? d = some q := let ⟨q, _, _, hq, _⟩ := dd'; ⟨q, hq⟩
  refine ⟨σ, _, d_write I3 (by rw [hd, f2]; exact True.intro) hs' he (extN ph), q3 _ ⟨xs ++ [(k, a, i)], ?_, rfl, fun z hz => ?_⟩⟩
  · rw [List.map_append, f1]; rfl
  · rcases List.mem_append.mp hz with h1 | h1
    · exact f3 z h1
    · rw [List.mem_singleton.mp h1]; exact ⟨hk, hdp⟩
theorem js_nput {i : Nat} {nm : Str} {pos' : Pos} {kvs : List (NestedKey × Int)} {k : NestedKey} {r : Int} (hu : X.A.units + 9 < cLine) (hval : JE X e x ss (mInt r) ss1) (he : JE X e y ss1 m ss2) (hk : KeyOf m k) (ht : ∃ ks, k = .tup ks) (hs : ss2[i]? = some (.own (oN X.w kvs))) (hs0 : ∃ m, ss1[i]? = some (.own m))
    (hg : getN kvs k = none) (hl : kvs.length < 100000) (hN : X.N[i]? = some nm) (hv : Vis X.env.scope nm := by first | exact Or.inl rfl | exact Or.inr (Or.inl rfl) | exact Or.inr (Or.inr rfl)) (hd : (nm == ("__debug__" : Str)) = false := by decide) (hcd : (nm == ("__classdict__" : Str)) = false := by decide)
    (hsw : swapsWith x (some (.Subscript (.Name nm p) y pos')) pos.line X.env = pure false := by rfl) : JS X e (.Assign [.Subscript (.Name nm p) y pos'] x pos) ss (.nx (ss2.set i (.own (oN X.w (kvs ++ [(k, r)]))))) :=
  PS_mono (ps_nput hu (pe_var (i := i) hN hv hd hcd) he hval hsw) fun D σ H ⟨F, I, K⟩ => ⟨F, I, fun v F1 H1 x1 I1 hv1 => by
    obtain ⟨m0, hs0⟩ := hs0
    obtain ⟨o, q1, d0, u0, rfl, _⟩ := I1.at_ i _ hs0
    refine ⟨_, q1, F1, I1, fun kv F2 H2 x2 I2 hm => ?_⟩
    obtain ⟨o, r1, d, u, rfl, q2, q3, _, _, q4⟩ := I2.at_ i _ hs
    rw [q1] at r1; cases r1
    obtain ⟨ks, rfl⟩ := ht
    have hkp := hk.2 _ _ hm
    have hkp' := hkp
    rw [keyP] at hkp'
    obtain ⟨ka, vs, rfl, _⟩ := hkp'
    exact ⟨_, ka, kvs, _, u, F2, r, rfl, rfl, hv1, I2.sub, q2, q4, hkp, hk.1, hg, hl, fun o' ho => K _ F2 _ (x1.trans x2) (I2.write hs q1 ho)⟩⟩
/-- len(d) -/
def rLenN (w : World) : List V → Hp → VK → Prop := fun xs H Q => ∃ (d : Addr) (kvs : List (NestedKey × Int)) (o : HO) (F : Hp), xs = [.ref d] ∧ Ex F H ∧ H d = some o ∧ (oN w kvs).p F d o ∧ Q (.int ((kvs.length : Nat) : Int)) H
theorem call_lenN : CallR X (.builtin "len") (rLenN X.w) := by
  intro pins s σ H xs us Q I r h
  obtain ⟨d, kvs, o, F, rfl, hF, hd, hN, q⟩ := h
  obtain ⟨u, rfl, rx⟩ := vals1 r
  obtain rfl : u = .ref d := rx
  obtain ⟨xs, ys, f1, f2, f3, f4, f5, f6, f7⟩ := dictN I hF hd hN
  have hl : kvs.length = ys.length := by rw [← paired_len f6, ← f1, List.length_map]
  refine call_len_dictH f4 f7 (by have := paired_len f6; omega) ?_
  rw [← hl]
  exact ⟨.int ((kvs.length : Nat) : Int), H, I.tok _, ⟨_, rfl⟩, q⟩
theorem je_lenN {i : Nat} {nm : Str} {kvs : List (NestedKey × Int)} {q : Pos} (hs : ss[i]? = some (.own (oN X.w kvs))) (hm : X.mg "len" = none) (hN : X.N[i]? = some nm) (hv : Vis X.env.scope nm := by first | exact Or.inl rfl | exact Or.inr (Or.inl rfl) | exact Or.inr (Or.inr rfl)) (hd : (nm == ("__debug__" : Str)) = false := by decide) (hcd : (nm == ("__classdict__" : Str)) = false := by decide)
    (hg : Gl X "len" := by rfl) (hst : starEach [.Name nm q] X.env = (false, eval (.Name nm q) X.env) :: starEach [] X.env := by rfl) (hpl : (backTo pos (starEach [] X.env)).any (·.1) = false := by rfl) : JE X e (.Call (.Name "len" p) [.Name nm q] [] pos) ss (mInt (kvs.length : Int)) ss :=
  PE_mono (pe_callB call_lenN hg hm PySem.boot_len (pa_cons (pe_var (i := i) hN hv hd hcd) pa_nil hst) (by decide) (by decide) hst hpl) fun σ H Q ⟨F, I, K⟩ => by
    obtain ⟨o, q1, d, u, rfl, q2, q3, _, _, q4⟩ := I.at_ i _ hs
    exact ⟨_, q1, d, kvs, u, F, rfl, I.sub, q2, q4, K _ F H Ex.rfl I rfl⟩
theorem dispH1 {K : Type} [DecidableEq K] {knd : HeapKind X.prog X.w K} {E : Value → Shared → Prop} {s : Shared} {keys : List (Option Expr)} {values : List Expr} {pairs : List (Sem Value × Sem Value)} {Q : Value → Shared → Prop} (hu : knd.room X.A)
    (hshape : (evalEachOpt keys X.env).zip ((evalEach values X.env).map fun v => do let x ← v; standAt pos; pure x) = pairs.map fun p => (some p.1, p.2)) (h0 : pairs ≠ []) (hlen : pairs.length ≤ 15)
    (h : wpAny (model X.prog X.w) X.A (evalPairs pairs) (fun vs s₁ => ∃ ps, CarriesH knd s₁.heap vs ps ∧ s₁.heap.DictOfH knd s.heap.objs.size [] ∧
      ∀ h' tk, h'.DictOfH knd s.heap.objs.size (storedAllH [] ps) → Heap.SameBut s.heap.objs.size s₁.heap h' → Q (.ref s.heap.objs.size) { s₁ with heap := h', toks := tk }) E
      { s with heap := s.heap.push { cls := .type "dict", data := .dict #[] } }) :
    wpAny (model X.prog X.w) X.A (eval (.Dict keys values pos) X.env) Q E s := by
  rw [arm_eval_Dict, hshape, dictDisplay_pairs pairs h0 (by omega)]
  exact wpAny_bind (wpAny_standAt (wpAny_bind (wpAny_subDictH (knd := knd) (Q := fun d s' => wpAny (model X.prog X.w) X.A (pure (Value.ref d)) Q E s') hu hlen
    (wpAny_mono h (fun vs s₁ h₁ => by obtain ⟨ps, hc, hm, hq⟩ := h₁; exact ⟨ps, hc, hm, fun h' tk a b => wpAny_pure (hq h' tk a b)⟩) fun _ _ e => e))))
/-- {k: v}, one pair, the key a tuple -/
theorem jo_ndisp {k : NestedKey} {r : Int} (hu : X.A.units + 9 < cLine) (hk : ∀ kk, JE X (e.kp kk) x ss m ss1) (hv : ∀ kk, JE X (e.kp kk) y ss1 (mInt r) ss2) (ho : KeyOf m k) (ht : ∃ ks, k = .tup ks)
    (hsh : (evalEachOpt [some x] X.env).zip ((evalEach [y] X.env).map fun v => do let x ← v; standAt pos; pure x) = [(eval x X.env, do let x ← eval y X.env; standAt pos; pure x)].map fun p => (some p.1, p.2) := by rfl) :
    JO X e (.Dict [some x] [y] pos) ss (oN X.w [(k, r)]) ss2 := by
  refine ⟨fun pins s σ H Q I ⟨F, J, K⟩ => ?_⟩
  have hn := I.hok.fresh (Nat.le_refl s.heap.objs.size)
  have I1 := I.laid (a := s.heap.objs.size) (h' := s.heap.push { cls := .type "dict", data := .dict #[] }) (t' := s.toks) (fun _ _ q => Heap.get?_push_of_some _ q) (Nat.le_refl _) (extN (phiN_nil (P := X.prog) (sysM I)))
  have O := Own1.lay (m := oN X.w []) (u := hoN X.w s.heap.objs.size []) J hn ⟨[], rfl, rfl, fun x hx => nomatch hx⟩
  have J1 := (J.grow (o := hoN X.w s.heap.objs.size []) hn).keepD upd_same O.f (.inl O.k) (fun i m h => O.ne i m h) (fun i a m h z => by
    obtain ⟨o, _, _, _, _, _, u, q, _⟩ := J.at_ i _ h
    rw [z, hn] at q
    cases q)
  refine dispH1 (knd := nestedKind X.prog X.w) (pairs := [(eval x X.env, do let x ← eval y X.env; standAt pos; pure x)]) (by show X.A.units + 8 < cLine; omega) hsh (by simp) (by simp) ?_
  have run := (pps_cons (ks := []) (vs := []) (pos := pos) (PE_mono (hk _) (fun _ _ _ q => q)) (PE_mono (hv _) (fun _ _ _ q => q)) pps_nil).run pins _ σ _ (fun ps H' => ∃ kv v F1, ps = [(kv, v)] ∧ Ex F F1 ∧ Fit (e.kp fun b => if b = s.heap.objs.size then some (hoN X.w s.heap.objs.size []) else e.k b) ss2 σ F1 H' ∧ m.p F1 kv ∧ v = .int r) I1
    ⟨F, J1, fun kv F1 H1 x1 I2 hm => ⟨F1, I2, fun v F2 H2 x2 I3 hv => ⟨kv, v, F2, rfl, x1.trans x2, I3, m.up x2 hm, hv⟩⟩⟩
  refine thn run fun ws s2 ⟨ps, H2, I2, rel, kv, v, F1, ep, x1, J2, hm, hv1⟩ => ?_
  subst ep
  subst hv1
  obtain ⟨hD, hDF⟩ := J2.kept s.heap.objs.size _ (by show (if _ then _ else _) = _; rw [if_pos rfl])
  obtain ⟨ks, rfl⟩ := ht
  have hkp := ho.2 _ _ hm
  have hkp' := hkp
  rw [keyP] at hkp'
  obtain ⟨ka, vs, rfl, _⟩ := hkp'
  have hN0 : (oN X.w []).p F1 s.heap.objs.size (hoN X.w s.heap.objs.size []) := ⟨[], rfl, rfl, fun x hx => nomatch hx⟩
  obtain ⟨xs, ys, f1, f2, f3, f4, f5, f6, f7⟩ := dictN I2 J2.sub hD hN0
  have exs : xs = [] := by
    cases xs with
    | nil => rfl
    | cons => cases f1
  subst exs
  cases f6
  cases rel with
  | cons r1 r2 =>
    cases r2
    rename_i pr _
    obtain ⟨p1, p2⟩ := pr
    obtain ⟨ra, rb⟩ := r1
    obtain rfl : p1 = Value.ref ka := ra
    refine ⟨[(.tup ks, ka, p2)], ⟨rfl, rfl, ⟨keyP_is I2 _ _ _ (keyP_up J2.sub _ _ hkp) rfl, ho.1⟩, trivial⟩, f7, fun h' tk hk' hs' => ?_⟩
    have ph := objN (xs := [(.tup ks, ka, r)]) (.cons ⟨rfl, rfl, rb⟩ .nil) hk' f4 (Nat.le_succ_of_le (by decide : (1:Nat) ≤ 99999))
    have he : ∃ q, h'.get? s.heap.objs.size = some q := let ⟨q, _, _, hq, _⟩ := hk'; ⟨q, hq⟩
    have hN1 : (oN X.w [(.tup ks, r)]).p F1 s.heap.objs.size (hoN X.w s.heap.objs.size [(.tup ks, ka, r)]) := ⟨[(.tup ks, ka, r)], rfl, rfl, fun z hz => by
      rw [List.mem_singleton.mp hz]
      exact ⟨hkp, ho.1⟩⟩
    have hl : ss2.length = ss.length := J2.len.symm.trans J.len
    have J3 := (J2.rekeep (w := hoN X.w s.heap.objs.size [(.tup ks, ka, r)]) O.h)
    have J4 : Fit e ss2 σ F1 (upd H2 s.heap.objs.size (hoN X.w s.heap.objs.size [(.tup ks, ka, r)])) := Fit.unwipe (P0 := ss) (P1 := ss2) (vs := []) (F0 := F) (H0 := H) J x1 J3 (fun a o q => by
      show (if a = s.heap.objs.size then _ else e.k a) = some o
      by_cases z : a = s.heap.objs.size
      · rw [z, O.k] at q; cases q
      · rw [if_neg z]; exact q) hl (fun i hi => nomatch hi) (fun i hi => nomatch hi)
    refine ⟨.ref s.heap.objs.size, _, d_write I2 (by rw [hD]; exact True.intro) hs' he (extN ph), rfl, K _ F1 _ x1 J4 ⟨⟨_, upd_same, hN1⟩, hDF, O.h, O.k, fun i m h z => ?_⟩⟩
    obtain ⟨o, h1, p, u, q1, q2, q3, q4, q5, q6⟩ := J2.at_ i (.own m) h
    rw [z] at h1
    cases h1
    cases q1
    have q5' : (if s.heap.objs.size = s.heap.objs.size then some (hoN X.w s.heap.objs.size []) else e.k s.heap.objs.size) = none := q5
    rw [if_pos rfl] at q5'
    cases q5'
end Jd

/-! text J12 -/
set_option Elab.async false
set_option linter.all false
set_option maxRecDepth 100000
set_option maxHeartbeats 4000000
namespace Jd
open PySem L2
variable {X : Cx} {e : En} {ss ss' ss1 ss2 ss3 : List Slot} {σ : St} {F F' H H' : Hp} {a b c x y : Expr} {pos p q : Pos} {m n o : Mp} {i j : Int} {ms : List Mp}
/-! ### dicts from ints to ints -/
def getI (kvs : List (Int × Int)) (k : Int) : Option Int := (kvs.find? fun p => decide (p.1 = k)).map (·.2)
def kvI (kvs : List (Int × Int)) : List (Key × V) := kvs.map fun p => (Sum.inl p.1, V.int p.2)
theorem valV_I {k : Int} : ∀ kvs : List (Int × Int), valV (kvI kvs) (Sum.inl k) = (getI kvs k).map V.int
  | [] => rfl
  | p :: r => by
    have ih := valV_I (k := k) r
    unfold valV getI kvI at ih ⊢
    rw [List.map_cons, List.find?_cons, List.find?_cons]
    by_cases z : p.1 = k
    · rw [decide_eq_true z, decide_eq_true (show ((Sum.inl p.1 : Key)) = Sum.inl k by rw [z])]
      rfl
    · rw [decide_eq_false z, decide_eq_false (show ¬ ((Sum.inl p.1 : Key)) = Sum.inl k from fun h => z (Sum.inl.inj h))]
      exact ih
theorem putK_I {k v : Int} {kvs : List (Int × Int)} (h : getI kvs k = none) : putK (kvI kvs) (Sum.inl k) (V.int v) = kvI (kvs ++ [(k, v)]) := by
  have hn : ((kvI kvs).any fun kv => decide (kv.1 = Sum.inl k)) = false := by
    rw [List.any_eq_false]
    intro z hz
    unfold kvI at hz
    obtain ⟨p, hp, rfl⟩ := List.mem_map.mp hz
    unfold getI at h
    rw [Option.map_eq_none_iff, List.find?_eq_none] at h
    have := h p hp
    intro c
    apply this
    exact decide_eq_true (Sum.inl.inj (of_decide_eq_true c))
  unfold putK
  rw [hn, if_neg (by decide)]
  unfold kvI
  rw [List.map_append]
  rfl
theorem jo_inew : JO X e (.Dict [] [] pos) ss (oD []) ss := PE_mono pe_dnewK fun σ H Q ⟨F, I, k⟩ => fun d hd => k d F _ Ex.rfl (I.grow hd) (Own1.lay I hd rfl)
theorem jt_inotin {s : Nat} {nm : Str} {kvs : List (Int × Int)} (hu : X.A.units + 1 < cLine) (he : JE X e x ss (mInt i) ss1) (hs : ss1[s]? = some (.own (oD kvs))) (hN : X.N[s]? = some nm)
    (hv : Vis X.env.scope nm := by first | exact Or.inl rfl | exact Or.inr (Or.inl rfl) | exact Or.inr (Or.inr rfl)) (hd : (nm == ("__debug__" : Str)) = false := by decide) (hcd : (nm == ("__classdict__" : Str)) = false := by decide)
    (h1 : behindInMarks .NotIn (.Name nm p) = false := by rfl) : JT X e (.Compare x [.NotIn] [.Name nm p] pos) ss (!(getI kvs i).isSome) ss1 :=
  PT_mono (pt_cmp (pc_dnotin hu he (pe_var (i := s) hN hv hd hcd)) h1) fun σ H Q ⟨F, I, K⟩ => ⟨F, I, fun v F1 H1 x1 I1 hm => by
    obtain ⟨o, q1, d, u, rfl, q2, q3, _, _, q4⟩ := I1.at_ s _ hs
    obtain rfl : u = .dK (kvI kvs) := q4
    obtain rfl : v = .int i := hm
    refine ⟨_, q1, d, _, rfl, DGet.k (k := Sum.inl i) q2, _, rfl, ?_⟩
    rw [valV_I, Option.isSome_map]
    exact K F1 H1 x1 I1⟩
theorem je_iget {s : Nat} {nm : Str} {kvs : List (Int × Int)} {r : Int} (hu : X.A.units + 1 < cLine) (he : JE X e y ss (mInt i) ss1) (hs : ss1[s]? = some (.own (oD kvs))) (hs0 : ∃ m, ss[s]? = some (.own m)) (hg : getI kvs i = some r) (hN : X.N[s]? = some nm)
    (hv : Vis X.env.scope nm := by first | exact Or.inl rfl | exact Or.inr (Or.inl rfl) | exact Or.inr (Or.inr rfl)) (hd : (nm == ("__debug__" : Str)) = false := by decide) (hcd : (nm == ("__classdict__" : Str)) = false := by decide) (hsl : NoSl y := by intro _ _; rfl) :
    JE X e (.Subscript (.Name nm p) y pos) ss (mInt r) ss1 :=
  PE_mono (pe_dget hu (pe_var (i := s) hN hv hd hcd) he hsl) fun σ H Q ⟨F, I, K⟩ => by
    obtain ⟨m0, hs0⟩ := hs0
    obtain ⟨o, q1, d0, u0, rfl, _⟩ := I.at_ s _ hs0
    refine ⟨_, q1, F, I, fun v F1 H1 x1 I1 hm => ?_⟩
    obtain ⟨o, r1, d, u, rfl, q2, q3, _, _, q4⟩ := I1.at_ s _ hs
    rw [q1] at r1; cases r1
    obtain rfl : u = .dK (kvI kvs) := q4
    obtain rfl : v = .int i := hm
    refine ⟨_, .int r, rfl, ?_, K _ F1 H1 x1 I1 rfl⟩
    have := DGet.k (k := Sum.inl i) q2
    rw [valV_I, hg] at this
    exact this
theorem js_iput {s : Nat} {nm : Str} {pos' : Pos} {kvs : List (Int × Int)} {r : Int} (hu : X.A.units + 1 < cLine) (hval : JE X e x ss (mInt r) ss1) (he : JE X e y ss1 (mInt i) ss2) (hs : ss2[s]? = some (.own (oD kvs))) (hs0 : ∃ m, ss1[s]? = some (.own m))
    (hg : getI kvs i = none) (hl : kvs.length < 100000) (hN : X.N[s]? = some nm) (hv : Vis X.env.scope nm := by first | exact Or.inl rfl | exact Or.inr (Or.inl rfl) | exact Or.inr (Or.inr rfl)) (hd : (nm == ("__debug__" : Str)) = false := by decide) (hcd : (nm == ("__classdict__" : Str)) = false := by decide)
    (hsw : swapsWith x (some (.Subscript (.Name nm p) y pos')) pos.line X.env = pure false := by rfl) : JS X e (.Assign [.Subscript (.Name nm p) y pos'] x pos) ss (.nx (ss2.set s (.own (oD (kvs ++ [(i, r)]))))) :=
  PS_mono (ps_dput hu (pe_var (i := s) hN hv hd hcd) he hval hsw) fun D σ H ⟨F, I, K⟩ => ⟨F, I, fun v F1 H1 x1 I1 hv1 => by
    obtain ⟨m0, hs0⟩ := hs0
    obtain ⟨o, q1, d0, u0, rfl, _⟩ := I1.at_ s _ hs0
    refine ⟨_, q1, F1, I1, fun kv F2 H2 x2 I2 hm => ?_⟩
    obtain ⟨o, r1, d, u, rfl, q2, q3, _, _, q4⟩ := I2.at_ s _ hs
    rw [q1] at r1; cases r1
    obtain rfl : u = .dK (kvI kvs) := q4
    obtain rfl : kv = .int i := hm
    obtain rfl : v = .int r := hv1
    refine ⟨_, _, rfl, DPut.k (k := Sum.inl i) q2 (Evl.sz_lt (by unfold kvI; rw [List.length_map]; omega)), ?_⟩
    rw [putK_I hg]
    exact K _ F2 _ (x1.trans x2) (I2.write hs q1 rfl)⟩
/-- {i: j} -/
theorem jo_idisp {r : Int} (hk : ∀ kk, JE X (e.kp kk) x ss (mInt i) ss1) (hv : ∀ kk, JE X (e.kp kk) y ss1 (mInt r) ss2) : JO X e (.Dict [some x] [y] pos) ss (oD [(i, r)]) ss2 := by
  refine PE_mono (pe_disp (pps_cons (PE_any hk) (PE_any hv) pps_nil) rfl rfl (List.cons_ne_nil _ _) (Nat.le_add_left 1 14)) fun σ H Q ⟨F, I, K⟩ => fun D hD => ?_
  have O := Own1.lay (m := oD []) (u := .dK []) I hD rfl
  have J := (I.grow (o := .dK []) hD).keepD (upd_same) O.f (.inl O.k) (fun i m h => O.ne i m h) (fun i a m h z => by
    obtain ⟨o, _, _, _, _, _, u, q, _⟩ := I.at_ i _ h
    rw [z, hD] at q
    cases q)
  refine ⟨fun b => if b = D then some (.dK []) else e.k b, F, J, fun v F1 H1 x1 I1 hm => ⟨fun b => if b = D then some (.dK []) else e.k b, F1, I1, fun w F2 H2 x2 I2 hw => ?_⟩⟩
  obtain rfl : v = .int i := hm
  obtain rfl : w = .int r := hw
  obtain ⟨hD1, hDF⟩ := I2.kept D _ (by show (if _ then _ else _) = _; rw [if_pos rfl])
  refine ⟨hD1, [(Sum.inl i, V.int r)], rfl, Nat.le_add_left 1 14, ?_⟩
  have hl : ss2.length = ss.length := I2.len.symm.trans I.len
  have J3 := (I2.rekeep (w := .dK [(Sum.inl i, V.int r)]) O.h)
  have J4 : Fit e ss2 σ F2 (upd H2 D (.dK [(Sum.inl i, V.int r)])) := Fit.unwipe (P0 := ss) (P1 := ss2) (vs := []) (F0 := F) (H0 := H) I (x1.trans x2) J3 (fun a o q => by
      show (if a = D then _ else e.k a) = some o
      by_cases z : a = D
      · rw [z, O.k] at q; cases q
      · rw [if_neg z]; exact q) hl (fun i hi => nomatch hi) (fun i hi => nomatch hi)
  refine K D F2 _ (x1.trans x2) J4 ⟨⟨_, upd_same, rfl⟩, hDF, O.h, O.k, fun i m h z => ?_⟩
  obtain ⟨o, h1, p, u, q1, q2, q3, q4, q5, q6⟩ := I2.at_ i (.own m) h
  rw [z] at h1
  cases h1
  cases q1
  have q5' : (if D = D then some (.dK []) else e.k D) = none := q5
  rw [if_pos rfl] at q5'
  cases q5'
/-! ### operators -/
/-- a list that a display made -/
def mLl (ms : List Mp) : Mp := ⟨fun H v => ∃ a vs, v = .ref a ∧ H a = some (.lst vs) ∧ allP H ms vs, fun x h => by
  obtain ⟨a, vs, h1, h2, h3⟩ := h
  exact ⟨a, vs, h1, x _ _ h2, h3.up x⟩⟩
theorem oL_mLl {ms : List Mp} : ∀ (F : Hp) (a : Addr) (u : HO), F a = some u → (oL ms).p F a u → (mLl ms).p F (.ref a) := fun F a u h ⟨vs, h1, h2⟩ => ⟨a, vs, rfl, by rw [h, h1], h2⟩
theorem je_fzl {ms : List Mp} (h : JO X e x ss (oL ms) ss') : JE X e x ss (mLl ms) ss' := PE_mono h fun σ H Q ⟨F, I, k⟩ => ⟨F, I, fun a F' H' e1 I1 O => by
  obtain ⟨F2, x2, I2, h2⟩ := O.freeze I1 oL_mLl
  exact k _ F2 H' (e1.trans x2) I2 h2⟩
theorem jo_cat {ns : List Mp} (ha : JE X e a ss (mLl ms) ss1) (hb : JE X e b ss1 (mLl ns) ss2) (hl : ms.length + ns.length ≤ 100000) : JO X e (.BinOp a .Add b pos) ss (oL (ms ++ ns)) ss2 :=
  PE_mono (pe_op op_cat ha hb) fun σ H Q ⟨F, I, k⟩ => ⟨F, I, fun v F1 H1 x1 I1 hv => ⟨F1, I1, fun w F2 H2 x2 I2 hw => by
    obtain ⟨l, xs, rfl, h1, h2⟩ := (mLl ms).up x2 hv
    obtain ⟨r, ys, rfl, h3, h4⟩ := hw
    refine ⟨l, r, xs, ys, rfl, rfl, I2.sub _ _ h1, I2.sub _ _ h3, Evl.sz_of (by rw [h2.length, h4.length]; exact hl), fun p hp => ?_⟩
    have O := Own1.lay (m := oL (ms ++ ns)) (u := .lst (xs ++ ys)) I2 hp ⟨_, rfl, h2.append h4⟩
    exact k p F2 _ (x1.trans x2) (I2.grow hp) ⟨O.u, O.f, O.h, O.k, O.ne⟩⟩⟩
theorem allP_rep {H : Hp} {vs : List V} (h : allP H ms vs) : ∀ n : Nat, allP H (List.replicate n ms).flatten (List.replicate n vs).flatten
  | 0 => trivial
  | n + 1 => by
    rw [List.replicate_succ, List.replicate_succ, List.flatten_cons, List.flatten_cons]
    exact h.append (allP_rep h n)
theorem flatten_rep1 {m : Mp} : ∀ n : Nat, (List.replicate n [m]).flatten = List.replicate n m
  | 0 => rfl
  | n + 1 => by
    rw [List.replicate_succ, List.flatten_cons, flatten_rep1 n]
    rfl
theorem jo_rep {m : Mp} (ha : JE X e a ss (mLl [m]) ss1) (hb : JE X e b ss1 (mInt i) ss2) (h0 : 0 ≤ i) (hl : i ≤ 100000) : JO X e (.BinOp a .Mult b pos) ss (oL (List.replicate i.toNat m)) ss2 :=
  PE_mono (pe_op op_rep ha hb) fun σ H Q ⟨F, I, k⟩ => ⟨F, I, fun v F1 H1 x1 I1 hv => ⟨F1, I1, fun w F2 H2 x2 I2 hw => by
    obtain ⟨l, xs, rfl, h1, h2⟩ := (mLl [m]).up x2 hv
    obtain rfl : w = .int i := hw
    refine ⟨l, i, xs, rfl, rfl, I2.sub _ _ h1, by omega, by omega, Evl.sz_of (by rw [h2.length, List.length_singleton]; omega), fun p hp => ?_⟩
    have O := Own1.lay (m := oL (List.replicate i.toNat m)) (u := .lst (List.replicate i.toNat xs).flatten) I2 hp ⟨_, rfl, by rw [← flatten_rep1]; exact allP_rep h2 _⟩
    exact k p F2 _ (x1.trans x2) (I2.grow hp) ⟨O.u, O.f, O.h, O.k, O.ne⟩⟩⟩
end Jd

/-! text J13 -/
set_option Elab.async false
set_option linter.all false
set_option maxRecDepth 100000
set_option maxHeartbeats 4000000
namespace Jd
open PySem L2
variable {X : Cx} {e : En} {ss ss' ss1 ss2 ss3 : List Slot} {σ : St} {F F' H H' : Hp} {a b c x y : Expr} {pos p q : Pos} {m n o : Mp} {i j : Int} {ms : List Mp}
/-! ### tuple * int -/
theorem tuple_mul1 (l : Addr) (items : Array Value) (n : Nat) (dd : Option Addr) (sl : Array (Option Value)) (u : Tok) :
    Meets (Builtin.«tuple.__mul__» ⟨[.ref l, .int 1 u], []⟩) (fun _ R s => s.heap.get? l = some { cls := .type "tuple", dict := dd, data := .seq items n, slots := sl } ∧ R (.ok (.ret (Value.ref l))) s) :=
  .of_wp fun prog w A R s h => by
    obtain ⟨hp, g, d, tk, os⟩ := s
    obtain ⟨hl, h⟩ := h
    have f1 := AutoSeq1.idx_int
    have c0 : (decide ((1 : Int) < -(2 ^ 63)) || decide ((1 : Int) ≥ 2 ^ 63)) = false := by decide
    have c1 : (items.isEmpty || (1 : Int) == 1) = true := by rw [show ((1 : Int) == 1) = true from rfl, Bool.or_true]
    wp_walk using wpAny_loadPart' hl
    repeat (first
      | (refine wpAny_ite_false (decide_eq_false (by rw [c0]; exact Bool.false_ne_true)) ?_; wp_walk using wpAny_loadPart' hl)
      | (refine wpAny_ite_true (decide_eq_true c1) ?_; wp_walk using wpAny_loadPart' hl))
    all_goals first | exact ⟨_, rfl, h⟩ | exact h
def rRep1 (K : PySem.W.Frag) : R2 := fun x y H Q => ∃ l xs, x = .ref l ∧ y = .int 1 ∧ SqT K H l xs ∧ Q (.ref l) H
theorem op_rep1 : OpR X (binaryOp .Mult) (rRep1 X.K) := by
  intro pins s σ H x y v u Q I rx ry h
  obtain ⟨l, xs, rfl, rfl, hT, q⟩ := h
  cases rx
  obtain ⟨t, rfl⟩ := ry
  obtain ⟨its, r, ⟨⟨cls, dd, data, sl⟩, ho, hc, n, hd⟩, hs⟩ := I.tuple hT
  simp only at hc hd
  subst hc hd
  refine wpAny_binaryOp_repeat_ref (T := "tuple") (U := "int") (by decide) ⟨_, ho, rfl⟩ (fun s' => typeIs_int s' 1 t) noFill_tuple_mul F.fills_int_mul F.slot_int_rmul repeat_tuple F.slot_int_index.lookup
    (call_meets F.slot_int_rmul (typeIs_int s 1 t) F.entry_int_rmul (F.args_int_rmul_2 _ _) (int_rmul_tuple 1 t l its.toArray n dd sl)
      ⟨ho, rfl, ⟨_, ho, rfl⟩, call_meets F.slot_tuple_mul ⟨_, ho, rfl⟩ F.entry_tuple_mul (F.args_tuple_mul_2 _ _) (tuple_mul1 l its.toArray n dd sl t) ⟨ho, ?_⟩⟩)
  exact ⟨.ref l, H, I, rfl, q⟩
theorem je_repT {m : Mp} (ha : JE X e a ss (mT [m]) ss1) (hb : JE X e b ss1 (mInt i) ss2) (h0 : 1 ≤ i) (hl : i ≤ 1000) : JE X e (.BinOp a .Mult b pos) ss (mT (List.replicate i.toNat m)) ss2 := by
  by_cases z : i = 1
  · subst z
    exact je_op op_rep1 (fun F H x y Q up hx hy q => by
      obtain ⟨l, xs, rfl, h1, h2⟩ := (mT [m]).up up hx
      obtain ⟨l', xs', h0, h1', h2'⟩ := hx
      cases h0
      exact ⟨l, xs, rfl, hy, .inl (.inl h1), q _ ⟨l, xs', rfl, h1', h2'⟩⟩) ha hb
  · exact PE_mono (pe_op op_repT ha hb) fun σ H Q ⟨F, I, k⟩ => ⟨F, I, fun v F1 H1 x1 I1 hv => ⟨F1, I1, fun w F2 H2 x2 I2 hw => by
      obtain ⟨l, xs, rfl, h1, h2⟩ := (mT [m]).up x2 hv
      obtain rfl : w = .int i := hw
      refine ⟨l, i, xs, rfl, rfl, .inl (.inl (I2.sub _ _ h1)), ?_, by omega, by omega, by rw [h2.length, List.length_singleton]; decide, fun p hp => ?_⟩
      · intro z; rw [z] at h2; exact h2.elim
      · exact k _ (upd F2 p (.tup (List.replicate i.toNat xs).flatten)) _ (x1.trans (x2.trans (Ex.new (I2.sub.back hp)))) (I2.lay hp) ⟨p, _, rfl, upd_same, (by rw [← flatten_rep1]; exact (allP_rep h2 _).up (Ex.new (I2.sub.back hp)))⟩⟩⟩
/-! ### texts -/
def repS (z : Str) (n : Nat) : Str := ⟨(List.replicate n z.cps).foldl (· ++ ·) #[]⟩
theorem repS_0 (z : Str) : repS z 0 = Str.empty := rfl
theorem repS_1 (z : Str) : repS z 1 = z := by
  unfold repS
  show (⟨#[] ++ z.cps⟩ : Str) = z
  rw [Array.empty_append]
def rMulS : R2 := fun x y H Q => ∃ z k, x = .str z ∧ y = .int k ∧ 0 ≤ k ∧ k ≤ 10000 ∧ z.length ≤ 1000 ∧ Q (.str (repS z k.toNat)) H
theorem op_mulS : OpR X (binaryOp .Mult) rMulS := by
  intro pins s σ H x y v u Q I rx ry h
  obtain ⟨z, k, rfl, rfl, h0, h1, h2, q⟩ := h
  obtain ⟨t, rfl⟩ := rx
  obtain ⟨t', rfl⟩ := ry
  have hz : z.length * k.toNat ≤ 1000 * 10000 := Nat.mul_le_mul h2 (by omega)
  refine PySem.P.mul_str ?_ (fun hk hh => ?_) (fun hk hh => ?_) ?_
  · rw [decide_eq_false (by omega), decide_eq_false (by omega)]; rfl
  · intro hc
    have : (10 : Int) ^ 14 ≤ (2 ^ 63 - 1) / k := Int.le_ediv_of_mul_le (by omega) (by omega)
    omega
  · show decide (_ > sizeLine) = false
    rw [sizeLine_eq]
    exact decide_eq_false (by omega)
  · by_cases hk : k < 1
    · rw [if_pos hk]
      have : k = 0 := by omega
      subst this
      exact ⟨by decide, ⟨.str (repS z 0), H, I.tok _, ⟨_, rfl⟩, q⟩⟩
    · rw [if_neg hk]
      by_cases hh : (k == 1 || z.length == 0) = true
      · rw [if_pos hh]
        refine ⟨.str (repS z k.toNat), H, I, ⟨t, ?_⟩, q⟩
        congr 1
        rcases Bool.or_eq_true _ _ |>.mp hh with w | w
        · rw [beq_iff_eq.mp w]; exact (repS_1 z).symm
        · have w := beq_iff_eq.mp w
          have e1 : z = ⟨#[]⟩ := by
            cases z with
            | mk cps =>
              congr 1
              exact Array.eq_empty_of_size_eq_zero w
          rw [e1]
          unfold repS
          congr 1
          have : ∀ n : Nat, (List.replicate n (#[] : Array Nat)).foldl (· ++ ·) #[] = #[] := by
            intro n
            induction n with
            | zero => rfl
            | succ n ih => rw [List.replicate_succ, List.foldl_cons]; exact ih
          exact (this _).symm
      · rw [if_neg hh]
        refine ⟨?_, ⟨.str (repS z k.toNat), H, I.tok _, ⟨_, rfl⟩, q⟩⟩
        have : ∀ (n : Nat) (acc : Array Nat), ((List.replicate n z.cps).foldl (· ++ ·) acc).size = acc.size + n * z.cps.size := by
          intro n
          induction n with
          | zero => intro acc; simp
          | succ n ih => intro acc; rw [List.replicate_succ, List.foldl_cons, ih, Array.size_append, Nat.succ_mul]; omega
        show (repS z k.toNat).cps.size ≤ sizeLine
        unfold repS
        rw [this, sizeLine_eq]
        show 0 + _ ≤ _
        have h3 : z.cps.size * k.toNat ≤ 1000 * 10000 := hz
        rw [Nat.mul_comm] at h3
        omega
theorem je_mulS {z : Str} (ha : JE X e a ss (mStr z) ss1) (hb : JE X e b ss1 (mInt i) ss2) (h0 : 0 ≤ i) (h1 : i ≤ 10000) (h2 : z.length ≤ 1000) : JE X e (.BinOp a .Mult b pos) ss (mStr (repS z i.toNat)) ss2 :=
  je_op op_mulS (fun F H x y Q _ hx hy q => ⟨z, i, hx, hy, h0, h1, h2, q _ rfl⟩) ha hb
theorem je_find {z t : Str} {apos : Pos} (ha : JE X e a ss (mStr z) ss1) (hb : JE X e b ss1 (mStr t) ss2) (hs : starEach [b] X.env = [(false, eval b X.env)] := by rfl) (hbase : attributeBase a "find" X.env (eval a X.env) = eval a X.env := by rfl) (hline : (apos.endLine == pos.line) = true := by rfl) :
    JE X e (.Call (.Attribute a "find" apos) [b] [] pos) ss (mInt (Txt.find z t)) ss2 :=
  PE_mono (pe_m1 PySem.F.slot_str_find PySem.F.type_str_find mt_find ha hb hs hbase hline) fun σ H Q ⟨F, I, k⟩ => ⟨F, I, fun v F1 H1 x1 I1 hv => ⟨⟨z, hv⟩, F1, I1, fun w F2 H2 x2 I2 hw => ⟨z, t, hv, by rw [show w = .str t from hw], k _ F2 H2 (x1.trans x2) I2 rfl⟩⟩⟩
theorem jt_inC {z : Str} {d : Nat} (ha : JE X e a ss (mStr ⟨#[d]⟩) ss1) (hb : JE X e b ss1 (mStr z) ss2) (hm : behindInMarks .In b = false := by rfl) : JT X e (.Compare a [.In] [b] pos) ss (decide (d ∈ z.cps.toList)) ss2 :=
  jt_cmp op_in_sign (fun F H x y Q _ hx hy q => ⟨d, z, hx, hy, q _ rfl⟩) ha hb hm
theorem jt_ninC {z : Str} {d : Nat} (ha : JE X e a ss (mStr ⟨#[d]⟩) ss1) (hb : JE X e b ss1 (mStr z) ss2) (hm : behindInMarks .NotIn b = false := by rfl) : JT X e (.Compare a [.NotIn] [b] pos) ss (!decide (d ∈ z.cps.toList)) ss2 :=
  jt_cmp op_notIn_sign (fun F H x y Q _ hx hy q => ⟨d, z, hx, hy, q _ rfl⟩) ha hb hm
theorem allP_strs {F : Hp} : ∀ {ys : List Str} {vs : List V}, allP F (ys.map mStr) vs → vs = ys.map V.str
  | [], [], _ => rfl
  | y :: ys, v :: vs, h => by rw [List.map_cons, ← allP_strs h.2, show v = .str y from h.1]
  | [], _ :: _, h => h.elim
  | _ :: _, [], h => h.elim
theorem je_join {z : Str} {ys : List Str} {apos : Pos} (ha : JE X e a ss (mStr z) ss1) (hb : JE X e b ss1 (mL (ys.map mStr)) ss2) (hl : (ys.map (·.length)).sum + ys.length * z.length ≤ 16777216) (hs : starEach [b] X.env = [(false, eval b X.env)] := by rfl) (hbase : attributeBase a "join" X.env (eval a X.env) = eval a X.env := by rfl) (hline : (apos.endLine == pos.line) = true := by rfl) :
    JE X e (.Call (.Attribute a "join" apos) [b] [] pos) ss (mStr (Txt.join z ys)) ss2 :=
  PE_mono (pe_join ha hb hs hbase hline) fun σ H Q ⟨F, I, k⟩ => ⟨F, I, fun v F1 H1 x1 I1 hv => ⟨⟨z, hv⟩, F1, I1, fun w F2 H2 x2 I2 hw => by
    obtain ⟨p, vs, rfl, h1, h2⟩ := (mL _).up I2.sub hw
    have e := allP_strs h2
    subst e
    exact ⟨z, p, ys, hv, rfl, .inl (.inl h1), hl, k _ F2 H2 (x1.trans x2) I2 rfl⟩⟩⟩
/-! ### is of bools; == of tuples of ints -/
theorem jt_isB {s t : Bool} {kk : Nat} {q : Pos} (ha : JE X e a ss (mBool s) ss1) : JT X e (.Compare a [.Is] [.Constant (.bool t) kk q] pos) ss (decide (s = t)) ss1 :=
  jt_cmp op_isBl (fun F H x y Q _ hx hy q => ⟨s, t, hx, hy, q _ rfl⟩) ha je_bool (nomark _)
theorem je_isB {s t : Bool} {kk : Nat} {q : Pos} (ha : JE X e a ss (mBool s) ss1) : JE X e (.Compare a [.Is] [.Constant (.bool t) kk q] pos) ss (mBool (decide (s = t))) ss1 :=
  je_cmp op_isBl (fun F H x y Q _ hx hy q => ⟨s, t, hx, hy, q _ rfl⟩) ha je_bool (nomark _)
theorem jt_notB {s t : Bool} {kk : Nat} {q : Pos} (ha : JE X e a ss (mBool s) ss1) : JT X e (.Compare a [.IsNot] [.Constant (.bool t) kk q] pos) ss (!decide (s = t)) ss1 :=
  jt_cmp op_notBl (fun F H x y Q _ hx hy q => ⟨s, t, hx, hy, q _ rfl⟩) ha je_bool (nomark _)
theorem je_neB {s t : Bool} (ha : JE X e a ss (mBool s) ss1) (hb : JE X e b ss1 (mBool t) ss2) : JE X e (.Compare a [.NotEq] [b] pos) ss (mBool (!decide (s = t))) ss2 := je_cmp op_ne (fun F H x y Q _ hx hy q => by
  cases hx; cases hy; exact ⟨rfl, q _ (congrArg (fun z => V.bl (!z)) dB)⟩) ha hb (nomark _)
theorem je_eqB {s t : Bool} (ha : JE X e a ss (mBool s) ss1) (hb : JE X e b ss1 (mBool t) ss2) : JE X e (.Compare a [.Eq] [b] pos) ss (mBool (decide (s = t))) ss2 := je_cmp op_eq (fun F H x y Q _ hx hy q => by
  cases hx; cases hy; exact ⟨rfl, q _ (congrArg V.bl dB)⟩) ha hb (nomark _)
theorem dpAll_ints {K : PySem.W.Frag} {H F : Hp} : ∀ {ns : List Int} {vs : List V}, allP F (ns.map mInt) vs → DpAll K H vs (ns.map PyData.int)
  | [], [], _ => .nil
  | n :: ns, v :: vs, h => by
    obtain rfl : v = .int n := h.1
    exact .cons (.int n) (dpAll_ints h.2)
  | [], _ :: _, h => h.elim
  | _ :: _, [], h => h.elim
theorem eqvAll_ints : ∀ (ns ks : List Int), PyData.eqvAll (ns.map PyData.int) (ks.map PyData.int) = decide (ns = ks)
  | [], [] => rfl
  | [], _ :: _ => rfl
  | _ :: _, [] => rfl
  | n :: ns, k :: ks => by
    rw [List.map_cons, List.map_cons, PyData.eqvAll, eqvAll_ints ns ks]
    rw [show PyData.eqv (.int n) (.int k) = decide (n = k) from rfl]
    by_cases z : n = k
    · subst z
      by_cases z2 : ns = ks
      · subst z2; simp
      · simp [z2]
    · simp [z]
theorem shaped_ints (ns : List Int) : SeqAt.shaped (.tuple (ns.map PyData.int)) = true := by
  have h1 : ∀ ns : List Int, PyData.canLayAll0 (ns.map PyData.int) = true := by
    intro ns
    induction ns with
    | nil => rfl
    | cons n ns ih => rw [List.map_cons, PyData.canLayAll0, ih]; rfl
  have h2 : ∀ ns : List Int, PyData.depthAll (ns.map PyData.int) = 0 := by
    intro ns
    induction ns with
    | nil => rfl
    | cons n ns ih => rw [List.map_cons, PyData.depthAll, ih]; rfl
  unfold SeqAt.shaped
  rw [PyData.canLay0, h1, PyData.depth, h2]
  rfl
theorem dp_ints {F H : Hp} {ns : List Int} {v : V} (up : Ex F H) (h : (mT (ns.map mInt)).p F v) : Dp X.K H v (.tuple (ns.map PyData.int)) := by
  obtain ⟨a, vs, rfl, h1, h2⟩ := (mT (ns.map mInt)).up up h
  exact .tup (.inl (.inl h1)) (dpAll_ints h2)
theorem je_eqT {ns ks : List Int} (hu : X.A.units + 64 < cLine) (ha : JE X e a ss (mT (ns.map mInt)) ss1) (hb : JE X e b ss1 (mT (ks.map mInt)) ss2) : JE X e (.Compare a [.Eq] [b] pos) ss (mBool (decide (ns = ks))) ss2 :=
  je_cmp (op_eqD hu) (fun F H x y Q up hx hy q => ⟨_, _, dp_ints up hx, dp_ints up hy, shaped_ints ns, shaped_ints ks, q _ (by
    rw [PyData.eqv, eqvAll_ints]; rfl)⟩) ha hb (nomark _)
end Jd

/-! text J14 -/
set_option Elab.async false
set_option linter.all false
set_option maxRecDepth 100000
set_option maxHeartbeats 4000000
namespace Jd
open PySem L2
variable {X : Cx} {e : En} {ss ss' ss1 ss2 ss3 s0 : List Slot} {σ : St} {F F' H H' : Hp} {a b c x y it elt : Expr} {pos p q : Pos} {m n o : Mp} {i j : Int} {ms : List Mp} {nm : Str}
/-! ### names, short -/
theorem jv (i : Nat) (h : ss[i]? = some (.val m) := by rfl) (hN : X.N[i]? = some nm := by rfl) (hv : Vis X.env.scope nm := by first | exact Or.inl rfl | exact Or.inr (Or.inl rfl) | exact Or.inr (Or.inr rfl)) (hd : (nm == ("__debug__" : Str)) = false := by decide) (hcd : (nm == ("__classdict__" : Str)) = false := by decide) : JE X e (.Name nm pos) ss m ss := je_var h hN hv hd hcd
theorem jfz (i : Nat) (h : ss[i]? = some (.own (oL ms)) := by rfl) (hN : X.N[i]? = some nm := by rfl) (hv : Vis X.env.scope nm := by first | exact Or.inl rfl | exact Or.inr (Or.inl rfl) | exact Or.inr (Or.inr rfl)) (hd : (nm == ("__debug__" : Str)) = false := by decide) (hcd : (nm == ("__classdict__" : Str)) = false := by decide) : JE X e (.Name nm pos) ss (mL ms) (ss.set i (.val (mL ms))) := je_varL h hN hv hd hcd
theorem jpo (i : Nat) (h : ss[i]? = some (.own (oL ms)) := by rfl) (hN : X.N[i]? = some nm := by rfl) (hv : Vis X.env.scope nm := by first | exact Or.inl rfl | exact Or.inr (Or.inl rfl) | exact Or.inr (Or.inr rfl)) (hd : (nm == ("__debug__" : Str)) = false := by decide) (hcd : (nm == ("__classdict__" : Str)) = false := by decide) : JP X e (.Name nm pos) ss ms ss := jp_own h hN hv hd hcd
theorem jpb (i : Nat) {ad : Addr} (h : ss[i]? = some (.bor ad (oL ms)) := by rfl) (hN : X.N[i]? = some nm := by rfl) (hv : Vis X.env.scope nm := by first | exact Or.inl rfl | exact Or.inr (Or.inl rfl) | exact Or.inr (Or.inr rfl)) (hd : (nm == ("__debug__" : Str)) = false := by decide) (hcd : (nm == ("__classdict__" : Str)) = false := by decide) : JP X e (.Name nm pos) ss ms ss := jp_bor h hN hv hd hcd
theorem jpv (i : Nat) (h : ss[i]? = some (.val (mL ms)) := by rfl) (hN : X.N[i]? = some nm := by rfl) (hv : Vis X.env.scope nm := by first | exact Or.inl rfl | exact Or.inr (Or.inl rfl) | exact Or.inr (Or.inr rfl)) (hd : (nm == ("__debug__" : Str)) = false := by decide) (hcd : (nm == ("__classdict__" : Str)) = false := by decide) : JP X e (.Name nm pos) ss ms ss := jp_of (je_var h hN hv hd hcd)
theorem passN {X : Cx} : PassesOwn (model X.nox.prog X.nox.w) X.nox.A X.nox.env X.nox.xe := PassesOwn.never
/-! ### scans -/
theorem first_fail (t : Nat → Bool) : ∀ N : Nat, (∀ i, i < N → t i = true) ∨ ∃ k, k < N ∧ t k = false ∧ ∀ i, i < k → t i = true
  | 0 => .inl fun i h => absurd h (Nat.not_lt_zero i)
  | N + 1 => by
    rcases first_fail t N with h | ⟨k, h1, h2, h3⟩
    · cases z : t N with
      | true =>
        refine .inl fun i hi => ?_
        by_cases c : i < N
        · exact h i c
        · have : i = N := by omega
          subst this
          exact z
      | false => exact .inr ⟨N, Nat.lt_succ_self N, z, h⟩
    · exact .inr ⟨k, by omega, h2, h3⟩
theorem all_range {t : Nat → Bool} {N : Nat} : (List.range N).all t = true ↔ ∀ i, i < N → t i = true := by
  rw [List.all_eq_true]
  exact ⟨fun h i hi => h i (List.mem_range.mpr hi), fun h i hi => h i (List.mem_range.mp hi)⟩
theorem le_any {j : Nat} {s : Slot} (h : s0[j]? = some .any) : Le (s0.set j s) s0 := ⟨List.length_set, fun i s' q => by
  by_cases z : i = j
  · subst z; rw [h] at q; cases q; exact .inl rfl
  · exact .inr (by rw [List.getElem?_set_ne (fun h => z h.symm)]; exact q)⟩
theorem set_any_same {j : Nat} (h : s0[j]? = some .any) : s0.set j .any = s0 := by
  obtain ⟨h1, h2⟩ := List.getElem?_eq_some_iff.mp h
  rw [← h2, List.set_getElem_self]
theorem js_weakR {sts : List Stmt} {s s' : List Slot} (h : JSs X e sts ss (.rt m s)) (l : Le s s') : JSs X e sts ss (.rt m s') := PSs_mono h fun D σ H ⟨F, I, k⟩ => ⟨F, I, fun v σ' F' H' x1 I1 hv => k v σ' F' H' x1 (I1.weak l) hv⟩
/-- for x in it: if c: return False (c: the turn fails); return True behind it -/
theorem js_scan (jx : Nat) {N : Nat} {ys : Nat → Mp} {t : Nat → Bool} {p1 p2 p3 p4 p5 p6 : Pos} {k1 k2 : Nat} (hi : JI X e (.Name nm p) it ss N ys ss1) (hl : Le ss1 s0) (hNd : X.N.Nodup)
    (hc : ∀ i, i < N → JT X e c (s0.set jx (.val (ys i))) (!t i) (s0.set jx (.val (ys i)))) (hp : PassesOwn (model X.prog X.w) X.A X.env X.xe) (hj : s0[jx]? = some .any := by rfl) (hNj : X.N[jx]? = some nm := by rfl) (hx : Loc X.env.scope nm := by first | exact Or.inl rfl | exact Or.inr rfl) (hf : X.fn nm = true ∨ X.env.scope.names.lookup nm = some .local := by first | exact .inl rfl | exact .inr rfl | assumption)
    (hcm : X.calm = true := by rfl) (hs : ∀ x, foldedSetIterable it X.env x = pure x := by intro _; rfl) :
    JSs X e [.For (.Name nm p) it [.If c [.Return (some (.Constant (.bool false) k1 p1)) p2] [] p3] [] p4, .Return (some (.Constant (.bool true) k2 p5)) p6] ss (.rt (mBool ((List.range N).all t)) s0) := by
  rcases first_fail t N with h | ⟨k, h1, h2, h3⟩
  · rw [all_range.mpr h]
    refine js_cons (js_forN (fun _ => s0) hi hl (fun i hi => ⟨s0.set jx (.val (ys i)), s0.set jx (.val (ys i)), jg_name hNd hNj hx hf, js_one (js_if (hc i hi) (fun z => by rw [h i hi] at z; cases z) fun _ => js_nil), le_any hj⟩) hp hcm hs) (js_one (js_ret je_bool))
  · have e1 : (List.range N).all t = false := by
      cases z : (List.range N).all t with
      | false => rfl
      | true => rw [all_range.mp z k h1] at h2; cases h2
    rw [e1]
    refine js_weakR (js_rt (js_for (k := k) (P := fun _ => s0) (B := fun i => s0.set jx (.val (ys i))) (rs := fun i => if t i then .nx (s0.set jx (.val (ys i))) else .rt (mBool false) (s0.set jx (.val (ys i)))) hi hl (Nat.le_of_lt h1)
      (fun i _ _ => jg_name hNd hNj hx hf) (fun i hi hik => ?_) (fun i hi => by
        rw [if_pos (h3 i hi)]; exact .nx (le_any hj)) (.inr ⟨h1, ?_⟩) hp hcm hs)) (le_any (s := .val (ys k)) hj)
    · by_cases hik' : i < k
      · rw [if_pos (h3 i hik')]
        exact js_one (js_if (hc i hi) (fun z => by rw [h3 i hik'] at z; cases z) fun _ => js_nil)
      · have : i = k := by omega
        subst this
        rw [if_neg (by rw [h2]; decide)]
        exact js_one (js_if (hc i hi) (fun _ => js_one (js_ret je_bool)) (fun z => by rw [h2] at z; cases z))
    · show Leaves (if t k then _ else _) _
      rw [if_neg (by rw [h2]; decide)]
      exact .rt
/-! ### comprehensions with one name -/
theorem jo_lc1 {N jx : Nat} {ys : Nat → Mp} {scope : Scope} (outs : Nat → Mp) (hi : JI X e (.Name nm p) it ss N ys ss1) (soft : ∀ s, ss1[jx]? = some s → s = .any ∨ ∃ m, s = .val m)
    (he : ∀ i, i < N → ∀ (k : Addr → Option HO) (s : Shared) (H : Hp) (C : Addr) (cl : List (Str × Addr)) (fp : List Addr), JE (X.blk s H scope (compEnvC scope cl C X.env) fp) (e.kp k) elt (ss1.set jx (.val (ys i))) (outs i) (ss1.set jx (.val (ys i))))
    (hN : N ≤ 100000) (hNd : X.N.Nodup) (ok : BlkOk X.N X.env.scope scope [(nm, jx)] := by exact blkOk_by (by kernel_rfl)) (hNj : X.N[jx]? = some nm := by rfl) (hx : ∀ cl C, (compEnvC scope cl C X.env).scope.names.lookup nm = some .local := by exact fun _ _ => rfl) (hc : X.calm = true := by rfl) (hs : ∀ x, foldedSetIterable it X.env x = pure x := by intro _; rfl) :
    JO X e (.ListComp elt [⟨.Name nm p, it, [], 0⟩] scope pos) ss (oL ((List.range N).map outs)) ss1 :=
  jo_lcP (own := [(nm, jx)]) (B := fun i => ss1.set jx (.val (ys i))) outs hi (fun k hk s h => by
      obtain rfl : k = jx := List.mem_singleton.mp hk
      exact soft s h) (fun _ _ _ _ _ => pg_name hNd hNj (.inl (hx _ _)) (.inr (hx _ _))) (fun i _ => by
      have := gok_name (m := ys i) (ss := ss1.set jx .any) (j := jx) (vs := [jx]) List.mem_cons_self
      rw [List.set_set] at this
      exact this) he (fun i _ => by
      show (ss1.set jx (.val (ys i))).set jx .any = ss1.set jx .any
      rw [List.set_set]) hN hNd ok hc hs
theorem js_setLc1 {i0 N jx : Nat} {nm0 : Str} {py spos : Pos} {ys : Nat → Mp} {scope : Scope} (outs : Nat → Mp) (hi : JI X e (.Name nm p) it ss N ys ss1) (soft : ∀ s, ss1[jx]? = some s → s = .any ∨ ∃ m, s = .val m)
    (he : ∀ i, i < N → ∀ (k : Addr → Option HO) (s : Shared) (H : Hp) (C : Addr) (cl : List (Str × Addr)) (fp : List Addr), JE (X.blk s H scope (compEnvC scope cl C X.env) fp) (e.kp k) elt (ss1.set jx (.val (ys i))) (outs i) (ss1.set jx (.val (ys i))))
    (hN : N ≤ 100000) (hNd : X.N.Nodup) (ok : BlkOk X.N X.env.scope scope [(nm, jx)] := by exact blkOk_by (by kernel_rfl)) (hNj : X.N[jx]? = some nm := by rfl) (hx : ∀ cl C, (compEnvC scope cl C X.env).scope.names.lookup nm = some .local := by exact fun _ _ => rfl) (hy : X.N[i0]? = some nm0 := by rfl) (hyl : X.env.scope.names.lookup nm0 = some .local := by rfl) (hk : X.env.scope.kind = .function := by rfl) (hln : (py.line == pos.line) = true := by rfl)
    (hna : (scope.names.any fun (n, k) => n == nm0 && (k == .local || k == .cell)) = false := by kernel_rfl) (hc : X.calm = true := by rfl) (hs : ∀ x, foldedSetIterable it X.env x = pure x := by intro _; rfl) :
    JS X e (.Assign [.Name nm0 py] (.ListComp elt [⟨.Name nm p, it, [], 0⟩] scope pos) spos) ss (.nx (ss1.set i0 (.own (oL ((List.range N).map outs))))) :=
  js_setLcP (own := [(nm, jx)]) (B := fun i => ss1.set jx (.val (ys i))) outs hi (fun k hk s h => by
      obtain rfl : k = jx := List.mem_singleton.mp hk
      exact soft s h) (fun _ _ _ _ _ => pg_name hNd hNj (.inl (hx _ _)) (.inr (hx _ _))) (fun i _ => by
      have := gok_name (m := ys i) (ss := ss1.set jx .any) (j := jx) (vs := [jx]) List.mem_cons_self
      rw [List.set_set] at this
      exact this) he (fun i _ => by
      show (ss1.set jx (.val (ys i))).set jx .any = ss1.set jx .any
      rw [List.set_set]) hN hNd ok hy hyl hk hln hna hc hs
theorem range_getD {ms : List Mp} {d : Mp} : (List.range ms.length).map (fun i => ms.getD i d) = ms := by
  apply List.ext_getElem
  · simp
  · intro i h1 h2
    simp [List.getD_eq_getElem?_getD, List.getElem?_eq_getElem h2]
end Jd

/-! text J15 -/
set_option Elab.async false
set_option linter.all false
set_option maxRecDepth 100000
set_option maxHeartbeats 4000000
namespace Jd
open PySem L2
variable {X : Cx} {e : En} {ss ss' ss1 ss2 ss3 s0 : List Slot} {σ : St} {F F' H H' : Hp} {a b c x y it elt tg : Expr} {pos p q : Pos} {m n o : Mp} {i j : Int} {ms : List Mp} {nm : Str} {st : Stmt} {rest body : List Stmt} {r : Res}
theorem Le.nil : Le [] [] := ⟨Eq.refl _, fun _ _ h => .inr h⟩
theorem Le.same {s : Slot} (h : Le ss ss') : Le (s :: ss) (s :: ss') := ⟨congrArg (· + 1) h.1, fun i s' q => by
  cases i with
  | zero => exact .inr q
  | succ i => exact h.2 i s' q⟩
theorem Le.drop {s : Slot} (h : Le ss ss') : Le (s :: ss) (.any :: ss') := ⟨congrArg (· + 1) h.1, fun i s' q => by
  cases i with
  | zero => exact .inl (Option.some.inj q).symm
  | succ i => exact h.2 i s' q⟩
theorem Le.trans (h : Le ss ss1) (k : Le ss1 ss2) : Le ss ss2 := ⟨h.1.trans k.1, fun i s q => by
  rcases k.2 i s q with z | z
  · exact .inl z
  · exact h.2 i s z⟩
theorem js_app (i : Nat) {p1 p2 : Pos} (he : JE X e x ss m ss1) (hs : ss1[i]? = some (.own (oL ms)) := by rfl) (hs0 : ∃ ms0, ss[i]? = some (.own (oL ms0)) := by exact ⟨_, rfl⟩) (hl : ms.length < 100000 := by first | omega | (simp only [List.length_map, List.length_range, List.length_append, List.length_cons, List.length_nil]; omega) | (simp; omega)) (hN : X.N[i]? = some nm := by rfl)
    (hv : Vis X.env.scope nm := by first | exact Or.inl rfl | exact Or.inr (Or.inl rfl) | exact Or.inr (Or.inr rfl)) (hd : (nm == ("__debug__" : Str)) = false := by decide) (hcd : (nm == ("__classdict__" : Str)) = false := by decide)
    (h1 : starEach [x] X.env = (false, eval x X.env) :: starEach [] X.env := by rfl) (h2 : attributeBase (.Name nm p) "append" X.env (eval (.Name nm p) X.env) = eval (.Name nm p) X.env := by rfl) (h3 : (p1.endLine == p2.line) = true := by rfl)
    (h4 : (((backTo p2 (starEach [x] X.env)).all fun x => !x.fst) && ((backToKw p2 (keywordEach [] X.env)).all fun x => x.fst.isSome) && decide (([x].length + ([] : List Keyword).length + if ([] : List Keyword).isEmpty = true then 0 else 1) < 30)) = true := by rfl)
    (hsw : swapsWith (.Call (.Attribute (.Name nm p) "append" p1) [x] [] p2) none pos.line X.env = pure false := by rfl) (hpl : (backTo p2 (starEach [] X.env)).any (·.1) = false := by rfl) :
    JS X e (.Expr (.Call (.Attribute (.Name nm p) "append" p1) [x] [] p2) pos) ss (.nx (ss1.set i (.own (oL (ms ++ [m]))))) :=
  js_append he hs hs0 hl hN hv hd hcd h1 h2 h3 h4 hsw hpl
theorem jset (i : Nat) {pos' : Pos} (he : JE X e x ss m ss1) (hNd : X.N.Nodup) (hi : X.N[i]? = some nm := by rfl) (hx : Loc X.env.scope nm := by first | exact Or.inl rfl | exact Or.inr rfl) (hs : swapsWith x (some (.Name nm pos')) pos.line X.env = pure false := by rfl)
    (hf : X.fn nm = true ∨ X.env.scope.names.lookup nm = some .local := by first | exact .inl rfl | exact .inr rfl | assumption) : JS X e (.Assign [.Name nm pos'] x pos) ss (.nx (ss1.set i (.val m))) := js_set he hNd hi hx hs hf
theorem jsetO (i : Nat) {pos' : Pos} {mo : Mo} (he : JO X e x ss mo ss1) (hNd : X.N.Nodup) (hi : X.N[i]? = some nm := by rfl) (hx : Loc X.env.scope nm := by first | exact Or.inl rfl | exact Or.inr rfl) (hs : swapsWith x (some (.Name nm pos')) pos.line X.env = pure false := by rfl)
    (hf : X.fn nm = true ∨ X.env.scope.names.lookup nm = some .local := by first | exact .inl rfl | exact .inr rfl | assumption) : JS X e (.Assign [.Name nm pos'] x pos) ss (.nx (ss1.set i (.own mo))) := js_setO he hNd hi hx hs hf
theorem jgn (i : Nat) (hNd : X.N.Nodup) (hi : X.N[i]? = some nm := by rfl) (hx : Loc X.env.scope nm := by first | exact Or.inl rfl | exact Or.inr rfl) (hf : X.fn nm = true ∨ X.env.scope.names.lookup nm = some .local := by first | exact .inl rfl | exact .inr rfl | assumption) :
    JG X e (.Name nm pos) m ss (ss.set i (.val m)) := jg_name hNd hi hx hf
/-! ### a list or a tuple -/
abbrev SeqOf (m : Mp) (ms : List Mp) : Prop := m = mL ms ∨ m = mT ms
theorem je_lenSq (h : SeqOf m ms) (ha : JE X e a ss m ss1) (hm : X.mg "len" = none) (hg : Gl X "len" := by rfl) (hs : starEach [a] X.env = (false, eval a X.env) :: starEach [] X.env := by rfl) (hpl : (backTo pos (starEach [] X.env)).any (·.1) = false := by rfl) :
    JE X e (.Call (.Name "len" p) [a] [] pos) ss (mInt (ms.length : Int)) ss1 := by
  rcases h with h | h
  · subst h; exact je_lenL (jp_of ha) hm hg hs hpl
  · subst h; exact je_lenT ha hm hg hs hpl
theorem ji_sq (h : SeqOf m ms) (ha : JE X e it ss m ss1) : JI X e tg it ss ms.length (fun i => ms.getD i mTrue) ss1 := by
  rcases h with h | h
  · subst h; exact ji_list ha
  · subst h; exact ji_tup ha
theorem rJ_sq (hq : SeqOf m ms) (h : JE X e x ss m ss1) : PE X x (rJ e ss (fun F _ u => ∃ st, Src F u ms.length (fun i => ms.getD i mTrue) st) ss1) := by
  rcases hq with hq | hq
  · subst hq; exact rJ_list h
  · subst hq; exact rJ_tup h
theorem je_ixSq (h : SeqOf m ms) (ha : JE X e a ss m ss1) (hb : JE X e b ss1 (mInt i) ss1) (hi : L2.atI ms i = some n) (hs : PlainIx b := by exact fun _ _ => rfl) : JE X e (.Subscript a b pos) ss n ss1 := by
  rcases h with h | h
  · subst h; exact je_ix (jp_of ha) hb hi hs
  · subst h; exact je_ixT ha hb hi hs
theorem getD_map {α : Type} {f : α → Mp} {xs : List α} {i : Nat} {d : α} (h : i < xs.length) : (xs.map f).getD i mTrue = f (xs.getD i d) := by
  rw [List.getD_eq_getElem?_getD, List.getD_eq_getElem?_getD, List.getElem?_map, List.getElem?_eq_getElem h]
  rfl
end Jd

/-! text J16 -/
set_option Elab.async false
set_option linter.all false
set_option maxRecDepth 100000
set_option maxHeartbeats 4000000
namespace Jd
open PySem PySem.W L2
variable {X : Cx} {e : En} {ss ss' ss1 ss2 ss3 s0 : List Slot} {σ : St} {F F' H H' : Hp} {a b c x y it elt tg : Expr} {pos p q : Pos} {m n o : Mp} {i j : Int} {ms : List Mp} {nm : Str} {st : Stmt} {rest body : List Stmt} {r : Res}
theorem minOf_eq : ∀ (x : Int) (xs : List Int), minOf x xs = minL (x :: xs)
  | x, [] => rfl
  | x, y :: ys => by
    have ih := minOf_eq (if DatumOrd.lt y x = true then y else x) ys
    show minOf (if DatumOrd.lt y x = true then y else x) ys = _
    rw [ih]
    have hl : DatumOrd.lt y x = decide (y < x) := rfl
    rw [hl]
    cases ys with
    | nil =>
      show (if decide (y < x) = true then y else x) = min x y
      by_cases h : y < x
      · rw [if_pos (decide_eq_true h), Int.min_eq_right (Int.le_of_lt h)]
      · rw [if_neg (by rw [decide_eq_false h]; decide), Int.min_eq_left (Int.not_lt.mp h)]
    | cons z zs =>
      show min (if decide (y < x) = true then y else x) (minL (z :: zs)) = min x (min y (minL (z :: zs)))
      by_cases h : y < x
      · rw [if_pos (decide_eq_true h)]; omega
      · rw [if_neg (by rw [decide_eq_false h]; decide)]; omega
theorem cr_minT (hc : X.calm = true) : CallR X (.builtin "min") (fun vs H Q => X.A.units + 5 < cLine ∧ ∃ (a : Addr) (ns : List Int), vs = [V.ref a] ∧ SqT X.K H a (ns.map V.int) ∧ ns ≠ [] ∧ Q (.int (minL ns)) H) := by
  intro pins s σ H vs us Q I r h
  obtain ⟨hu, a, ns, rfl, hs, hne, q⟩ := h
  obtain ⟨its, rv, hl, _⟩ := I.tuple hs
  rw [Vals.ref1 r]
  cases ns with
  | nil => exact absurd rfl hne
  | cons n ns =>
    have hA : HoldAll s.heap its (n :: ns) := by
      have : DpAll X.K H ((n :: ns).map V.int) ((n :: ns).map PyData.int) := by
        have g : ∀ l : List Int, DpAll X.K H (l.map V.int) (l.map PyData.int) := fun l => by
          induction l with
          | nil => exact .nil
          | cons b l ih => exact .cons (.int b) ih
        exact g _
      exact Dp.readsAll I _ _ _ this rv
    refine min_tuple_datum (I.ok.hd hc) (vs := its.toArray) hl hA (by show X.A.units + 1 + 0 < cLine; omega) fun i v h' tk _ hv hk => ?_
    obtain ⟨as, hr⟩ := hv
    rw [minOf_eq] at hr
    refine ⟨.int (minL (n :: ns)), H, I.kept hk, ?_, q⟩
    have hr' : Reads h' v (.int (minL (n :: ns))) as := hr
    cases hr' with
    | int t u => exact ⟨_, rfl⟩
theorem je_minSq {ns : List Int} (hq : SeqOf m (ns.map mInt)) (ha : JE X e a ss m ss1) (hu : X.A.units + 5 < cLine) (hne : ns ≠ []) (hm : X.mg "min" = none) (hc : X.calm = true := by rfl) (hg : Gl X "min" := by rfl) (hs : starEach [a] X.env = (false, eval a X.env) :: starEach [] X.env := by rfl) (hpl : (backTo pos (starEach [] X.env)).any (·.1) = false := by rfl) :
    JE X e (.Call (.Name "min" p) [a] [] pos) ss (mInt (minL ns)) ss1 := by
  rcases hq with h | h
  · subst h; exact je_min (jp_of ha) hne hm hc hg hs hpl
  · subst h
    exact PE_mono (pe_callB (cr_minT hc) hg hm (by decide +kernel) (pa_cons ha pa_nil hs) (by decide) (by decide) hs hpl) fun σ H Q ⟨F, I, k⟩ => ⟨F, I, fun ad F1 H1 x1 I1 hp => by
      obtain ⟨b, vs, rfl, hT, hA⟩ := hp
      rw [allP_int hA] at hT
      exact ⟨hu, b, ns, rfl, SqT_of I1 hT, hne, k _ F1 H1 x1 I1 rfl⟩⟩
/-- from a room: the units that are left -/
theorem jfld {C ad : Addr} {fs : List (Str × Mp)} {f : Str} (i : Nat) {pos' : Pos} (he : JE X e x ss m ss1) (hc : Cls X.K C) (hn : NoAttr X.K C f) (hs : ss1[i]? = some (.bor ad (oI C fs)) := by rfl) (hf : (fs.map (·.1)).contains f = false := by kernel_rfl) (hl : fs.length < 900 := by exact Nat.lt_of_le_of_lt (Nat.le_of_ble_eq_true rfl : _ ≤ 10) (by decide)) (hN : X.N[i]? = some nm := by rfl)
    (hv : Vis X.env.scope nm := by first | exact Or.inl rfl | exact Or.inr (Or.inl rfl) | exact Or.inr (Or.inr rfl)) (hd : (nm == ("__debug__" : Str)) = false := by decide) (hcd : (nm == ("__classdict__" : Str)) = false := by decide)
    (hsw : swapsWith x (some (.Attribute (.Name nm p) f pos')) pos.line X.env = pure false := by rfl) : JS X e (.Assign [.Attribute (.Name nm p) f pos'] x pos) ss (.nx (ss1.set i (.bor ad (oI C (fs ++ [(f, m)]))))) :=
  js_fld he hs (fun h => by rw [List.contains_iff_mem.mpr h] at hf; cases hf) hl hc hn hN hv hd hcd hsw
/-! ### items of tuples and lists -/
abbrev mNs (ns : List Int) : Mp := mT (ns.map mInt)
abbrev mTb (tb : List (List Int)) : Mp := mT (tb.map mNs)
theorem getD_some {α : Type} {xs : List α} {i : Nat} {d : α} (h : i < xs.length) : xs[i]? = some (xs.getD i d) := by rw [List.getD_eq_getElem?_getD, List.getElem?_eq_getElem h]; rfl
/-- a tuple's item, the tuple told by a list -/
theorem je_ixF {α : Type} {f : α → Mp} {xs : List α} (d : α) (k : Nat) (ha : JE X e a ss (mT (xs.map f)) ss1) (hb : JE X e b ss1 (mInt i) ss2) (hi : i = (k : Int)) (h : k < xs.length) {m : Mp} (hm : f (xs.getD k d) = m := by rfl) (hs : PlainIx b := by exact fun _ _ => rfl) : JE X e (.Subscript a b pos) ss m ss2 := by
  subst hi; subst hm
  exact je_ixT ha hb (atI_mapN (getD_some h)) hs
theorem je_ixLF {α : Type} {f : α → Mp} {xs : List α} (d : α) (k : Nat) (ha : JP X e a ss (xs.map f) ss1) (hb : JE X e b ss1 (mInt i) ss1) (hi : i = (k : Int)) (h : k < xs.length) {m : Mp} (hm : f (xs.getD k d) = m := by rfl) (hs : PlainIx b := by exact fun _ _ => rfl) : JE X e (.Subscript a b pos) ss m ss1 := by
  subst hi; subst hm
  exact je_ix ha hb (atI_mapN (getD_some h)) hs
theorem je_ixNs {ns : List Int} (k : Nat) (ha : JE X e a ss (mNs ns) ss1) (hb : JE X e b ss1 (mInt i) ss2) (hi : i = (k : Int)) (h : k < ns.length) (hs : PlainIx b := by exact fun _ _ => rfl) : JE X e (.Subscript a b pos) ss (mInt (ns.getD k 0)) ss2 := je_ixF 0 k ha hb hi h rfl hs
theorem je_ixTb {tb : List (List Int)} (k : Nat) (ha : JE X e a ss (mTb tb) ss1) (hb : JE X e b ss1 (mInt i) ss2) (hi : i = (k : Int)) (h : k < tb.length) (hs : PlainIx b := by exact fun _ _ => rfl) : JE X e (.Subscript a b pos) ss (mNs (tb.getD k [])) ss2 := je_ixF [] k ha hb hi h rfl hs
/-! ### comprehensions with two names -/
theorem jo_lc2 {N : Nat} (j1 j2 : Nat) {n1 n2 : Str} {p1 p2 tp : Pos} {kk : Nat} {u v : Nat → Mp} {scope : Scope} (outs : Nat → Mp) (hi : JI X e (.Tuple [.Name n1 p1, .Name n2 p2] kk tp) it ss N (fun i => mT [u i, v i]) ss1) (soft1 : ∀ s, ss1[j1]? = some s → s = .any ∨ ∃ m, s = .val m) (soft2 : ∀ s, ss1[j2]? = some s → s = .any ∨ ∃ m, s = .val m)
    (he : ∀ i, i < N → ∀ (k : Addr → Option HO) (s : Shared) (H : Hp) (C : Addr) (cl : List (Str × Addr)) (fp : List Addr), JE (X.blk s H scope (compEnvC scope cl C X.env) fp) (e.kp k) elt ((ss1.set j1 (.val (u i))).set j2 (.val (v i))) (outs i) ((ss1.set j1 (.val (u i))).set j2 (.val (v i))))
    (hN : N ≤ 100000) (hNd : X.N.Nodup) (ok : BlkOk X.N X.env.scope scope [(n1, j1), (n2, j2)] := by exact blkOk_by (by kernel_rfl)) (hN1 : X.N[j1]? = some n1 := by rfl) (hN2 : X.N[j2]? = some n2 := by rfl) (hne : j1 ≠ j2 := by decide)
    (hx1 : ∀ cl C, (compEnvC scope cl C X.env).scope.names.lookup n1 = some .local := by exact fun _ _ => rfl) (hx2 : ∀ cl C, (compEnvC scope cl C X.env).scope.names.lookup n2 = some .local := by exact fun _ _ => rfl) (hc : X.calm = true := by rfl) (hs : ∀ x, foldedSetIterable it X.env x = pure x := by intro _; rfl) :
    JO X e (.ListComp elt [⟨.Tuple [.Name n1 p1, .Name n2 p2] kk tp, it, [], 0⟩] scope pos) ss (oL ((List.range N).map outs)) ss1 :=
  jo_lcP (own := [(n1, j1), (n2, j2)]) (B := fun i => (ss1.set j1 (.val (u i))).set j2 (.val (v i))) outs hi (fun k hk s h => by
      rcases List.mem_cons.mp hk with z | z
      · subst z; exact soft1 s h
      · obtain rfl : k = j2 := List.mem_singleton.mp z
        exact soft2 s h)
    (g := gTup X.K 2 (gNs [j1, j2])) (fun s H C cl fp => pg_tup (X := X.blk s H scope (compEnvC scope cl C X.env) fp) (t := gNs [j1, j2]) (n := 2) hc (pgs_cons (pg_name hNd hN1 (.inl (hx1 _ _)) (.inr (hx1 _ _))) (pgs_cons (pg_name hNd hN2 (.inl (hx2 _ _)) (.inr (hx2 _ _))) pgs_nil)))
    (fun i _ => by
      have := gok_tup (K := X.K) (ms := [u i, v i]) (ss := wipeS ss1 [j1, j2]) (js := [j1, j2]) (vs := [j1, j2]) (fun j h => h) rfl
      have e1 : setVs (wipeS ss1 [j1, j2]) ([j1, j2].zip [u i, v i]) = (ss1.set j1 (.val (u i))).set j2 (.val (v i)) := by
        show ((((ss1.set j2 .any).set j1 .any).set j1 (.val (u i))).set j2 (.val (v i))) = _
        rw [List.set_set, List.set_comm _ _ (Ne.symm hne), List.set_set]
      rw [e1] at this
      exact this) he (fun i _ => by
      show ((((ss1.set j1 (.val (u i))).set j2 (.val (v i))).set j2 .any).set j1 .any) = (ss1.set j2 .any).set j1 .any
      rw [List.set_set, List.set_comm _ _ hne, List.set_set]) hN hNd ok hc hs
end Jd

/-! text J17 -/
set_option Elab.async false
set_option linter.all false
set_option maxRecDepth 100000
set_option maxHeartbeats 4000000
namespace Jd
open PySem PySem.W L2
variable {X : Cx} {e : En} {ss ss' ss1 ss2 ss3 s0 : List Slot} {σ : St} {F F' H H' : Hp} {a b c x y it elt tg : Expr} {pos p q : Pos} {m n o : Mp} {i j : Int} {ms : List Mp} {nm : Str} {st : Stmt} {rest body : List Stmt} {r : Res}
theorem room_u {k : Nat} {A : Around} (hr : Room k A) {n : Nat} (h : n ≤ 64 := by decide) : A.units + n < cLine := Nat.lt_of_le_of_lt (Nat.add_le_add_left h _) hr.units
/-- more is told than is used -/
theorem je_weak {m m' : Mp} (h : JE X e x ss m ss1) (k : ∀ H v, m.p H v → m'.p H v) : JE X e x ss m' ss1 := PE_mono h fun σ H Q ⟨F, I, K⟩ => ⟨F, I, fun v F1 H1 x1 I1 hv => K v F1 H1 x1 I1 (k _ _ hv)⟩
/-- a text of at most n letters -/
def mSh (n : Nat) : Mp := ⟨fun _ v => ∃ z : Str, v = .str z ∧ z.length ≤ n, fun _ h => h⟩
theorem mSh_of {z : Str} {n : Nat} (h : z.length ≤ n) : ∀ H v, (mStr z).p H v → (mSh n).p H v := fun _ _ e => ⟨z, e, h⟩
theorem mSh_le {k n : Nat} (h : k ≤ n) : ∀ H v, (mSh k).p H v → (mSh n).p H v := fun _ _ ⟨z, e, l⟩ => ⟨z, e, Nat.le_trans l h⟩
theorem nonB_sh {n : Nat} : NonB (mSh n) false := fun _ _ ⟨_, h, _⟩ => by cases h; rfl
theorem je_addSh {k n : Nat} (ha : JE X e a ss (mSh k) ss1) (hb : JE X e b ss1 (mSh n) ss2) (hl : k + n ≤ 100000) : JE X e (.BinOp a .Add b pos) ss (mSh (k + n)) ss2 :=
  je_op (m := mSh k) (n := mSh n) (o := mSh (k + n)) op_add_str (fun F H x y Q _ ⟨s, hx, h1⟩ ⟨t, hy, h2⟩ q => ⟨s, t, hx, hy, Evl.sz_of (by omega), q _ ⟨s ++ t, rfl, by
    show (s.cps ++ t.cps).size ≤ _
    rw [Array.size_append]
    exact Nat.add_le_add h1 h2⟩⟩) ha hb
/-! ### keys that a list puts in order -/
def kvsN {α : Type} (key : α → NestedKey) (xs : List α) : List (NestedKey × Int) := xs.zipIdx.map fun p => (key p.1, (p.2 : Int))
theorem kvsN_snoc {α : Type} {key : α → NestedKey} {xs : List α} {x : α} : kvsN key (xs ++ [x]) = kvsN key xs ++ [(key x, (xs.length : Int))] := by
  unfold kvsN
  rw [List.zipIdx_append, List.map_append]
  simp
theorem kvsN_length {α : Type} {key : α → NestedKey} {xs : List α} : (kvsN key xs).length = xs.length := by
  unfold kvsN
  rw [List.length_map, List.length_zipIdx]
def posOf {α : Type} [DecidableEq α] (xs : List α) (x : α) : Option Nat := xs.findIdx? fun y => decide (y = x)
theorem getN_kvs {α : Type} [DecidableEq α] {key : α → NestedKey} (inj : ∀ x y, key x = key y → x = y) {x : α} {xs : List α} : getN (kvsN key xs) (key x) = (posOf xs x).map (fun i : Nat => (i : Int)) := by
  have : ∀ (xs : List α) (n : Nat), getN ((xs.zipIdx n).map fun p => (key p.1, (p.2 : Int))) (key x) = (posOf xs x).map (fun i : Nat => ((i + n : Nat) : Int)) := by
    intro xs
    induction xs with
    | nil => intro n; rfl
    | cons y ys ih =>
      intro n
      have ih := ih (n + 1)
      unfold getN posOf at ih ⊢
      rw [List.zipIdx_cons, List.map_cons, List.find?_cons, List.findIdx?_cons]
      by_cases h : y = x
      · subst h
        rw [decide_eq_true (show ((key y, (n : Int)) : NestedKey × Int).1 = key y from rfl), decide_eq_true (rfl : y = y)]
        simp
      · rw [decide_eq_false (show ¬ ((key y, (n : Int)) : NestedKey × Int).1 = key x from fun z => h (inj _ _ z)), decide_eq_false h]
        simp only [Bool.false_eq_true, if_false, Option.map_map]
        rw [ih]
        congr 1
        funext k
        show ((k + (n + 1) : Nat) : Int) = ((k + 1 + n : Nat) : Int)
        omega
  exact this xs 0
def kvsI (xs : List Int) : List (Int × Int) := xs.zipIdx.map fun p => (p.1, (p.2 : Int))
theorem kvsI_snoc {xs : List Int} {x : Int} : kvsI (xs ++ [x]) = kvsI xs ++ [(x, (xs.length : Int))] := by
  unfold kvsI
  rw [List.zipIdx_append, List.map_append]
  simp
theorem kvsI_length {xs : List Int} : (kvsI xs).length = xs.length := by
  unfold kvsI
  rw [List.length_map, List.length_zipIdx]
theorem getI_kvs {x : Int} {xs : List Int} : getI (kvsI xs) x = (posOf xs x).map (fun i : Nat => (i : Int)) := by
  have : ∀ (xs : List Int) (n : Nat), getI ((xs.zipIdx n).map fun p => (p.1, (p.2 : Int))) x = (posOf xs x).map (fun i : Nat => ((i + n : Nat) : Int)) := by
    intro xs
    induction xs with
    | nil => intro n; rfl
    | cons y ys ih =>
      intro n
      have ih := ih (n + 1)
      unfold getI posOf at ih ⊢
      rw [List.zipIdx_cons, List.map_cons, List.find?_cons, List.findIdx?_cons]
      by_cases h : y = x
      · subst h
        rw [decide_eq_true (rfl : y = y)]
        simp
      · rw [decide_eq_false h]
        simp only [Bool.false_eq_true, if_false, Option.map_map]
        rw [ih]
        congr 1
        funext k
        show ((k + (n + 1) : Nat) : Int) = ((k + 1 + n : Nat) : Int)
        omega
  exact this xs 0
section
variable {α : Type} [DecidableEq α]
theorem posOf_none {xs : List α} {x : α} : posOf xs x = none ↔ x ∉ xs := by
  unfold posOf
  rw [List.findIdx?_eq_none_iff]
  constructor
  · intro h hx
    have := h x hx
    rw [decide_eq_true rfl] at this
    cases this
  · intro h y hy
    exact decide_eq_false fun z => h (z ▸ hy)
theorem posOf_some {xs : List α} {x : α} {i : Nat} (h : posOf xs x = some i) : i < xs.length ∧ xs[i]? = some x := by
  unfold posOf at h
  rw [List.findIdx?_eq_some_iff_getElem] at h
  obtain ⟨h1, h2, _⟩ := h
  exact ⟨h1, by rw [List.getElem?_eq_getElem h1, of_decide_eq_true h2]⟩
/-- the list with x in it, and x's place -/
def putX (xs : List α) (x : α) : List α := if x ∈ xs then xs else xs ++ [x]
def atX (xs : List α) (x : α) : Nat := (posOf (putX xs x) x).getD 0
theorem atX_old {xs : List α} {x : α} (h : x ∈ xs) : putX xs x = xs ∧ posOf xs x = some (atX xs x) := by
  have e : putX xs x = xs := if_pos h
  refine ⟨e, ?_⟩
  unfold atX
  rw [e]
  cases z : posOf xs x with
  | none => exact absurd h (posOf_none.mp z)
  | some i => rfl
theorem posOf_snoc {xs : List α} {x : α} (h : x ∉ xs) : posOf (xs ++ [x]) x = some xs.length := by
  unfold posOf
  rw [List.findIdx?_append]
  have : List.findIdx? (fun y => decide (y = x)) xs = none := posOf_none.mpr h
  rw [this]
  simp [List.findIdx?_cons]
theorem atX_new {xs : List α} {x : α} (h : x ∉ xs) : putX xs x = xs ++ [x] ∧ atX xs x = xs.length := by
  have e : putX xs x = xs ++ [x] := if_neg h
  refine ⟨e, ?_⟩
  unfold atX
  rw [e, posOf_snoc h]
  rfl
theorem atX_lt {xs : List α} {x : α} : atX xs x < (putX xs x).length ∧ (putX xs x)[atX xs x]? = some x := by
  by_cases h : x ∈ xs
  · obtain ⟨h1, h2⟩ := atX_old h
    rw [h1]
    exact posOf_some h2
  · obtain ⟨h1, h2⟩ := atX_new h
    rw [h1, h2]
    constructor
    · simp
    · simp
theorem putX_le {xs : List α} {x : α} : xs.length ≤ (putX xs x).length := by
  unfold putX
  split
  · exact Nat.le_refl _
  · simp
theorem putX_le1 {xs : List α} {x : α} : (putX xs x).length ≤ xs.length + 1 := by
  unfold putX
  split
  · omega
  · simp
theorem putX_old {xs : List α} {x : α} {i : Nat} (h : i < xs.length) : (putX xs x)[i]? = xs[i]? := by
  unfold putX
  split
  · rfl
  · rw [List.getElem?_append_left h]
theorem putX_mem {xs : List α} {x : α} : x ∈ putX xs x := List.mem_of_getElem? atX_lt.2
end
end Jd

/-! text J18 -/
set_option Elab.async false
set_option linter.all false
set_option maxRecDepth 100000
set_option maxHeartbeats 4000000
namespace Jd
open PySem PySem.W L2
variable {X : Cx} {e : En} {ss ss' ss1 ss2 ss3 s0 : List Slot} {σ : St} {F F' H H' : Hp} {a b c x y it elt tg : Expr} {pos p q : Pos} {m n o : Mp} {i j : Int} {ms : List Mp} {nm : Str} {st : Stmt} {rest body : List Stmt} {r : Res}
theorem Wk.congr {J : It} {N : Nat} {ys ys' : Nat → Mp} (w : Wk J N F ys) (h : ∀ i, i < N → ys i = ys' i) : Wk J N F ys' where
  goes := w.goes
  stops := w.stops
  yields := fun i H v H' e ss σ F2 hi x I hy => by rw [← h i hi]; exact w.yields i H v H' e ss σ F2 hi x I hy
  kept := w.kept
theorem ji_congr {N N' : Nat} {ys ys' : Nat → Mp} (h : JI X e tg it ss N ys ss1) (hy : ∀ i, i < N → ys i = ys' i) (hN : N = N' := by rfl) : JI X e tg it ss N' ys' ss1 := by
  subst hN
  exact PI_mono h fun σ H R ⟨F, I, k⟩ => ⟨F, I, fun J F' H' x I1 w => k J F' H' x I1 (w.congr hy)⟩
/-- over a list or tuple that is told by a list -/
theorem ji_map {α : Type} {f : α → Mp} {xs : List α} (d : α) (hq : SeqOf m (xs.map f)) (ha : JE X e it ss m ss1) {g : Nat → Mp} (hg : ∀ i, i < xs.length → f (xs.getD i d) = g i) : JI X e tg it ss xs.length g ss1 :=
  ji_congr (ji_sq hq ha) (fun i hi => by
    rw [List.length_map] at hi
    rw [getD_map (d := d) hi, hg i hi]) (by rw [List.length_map])
/-- enumerate of such -/
theorem ji_enum {α : Type} {f : α → Mp} {xs : List α} {elts : List Expr} {kk : Nat} {tpos : Pos} (d : α) (hq : SeqOf m (xs.map f)) (ha : JE X e a ss m ss1) (hm : X.mg "enumerate" = none) {g : Nat → Mp} (hg' : ∀ i, i < xs.length → f (xs.getD i d) = g i) (hg : Gl X "enumerate" := by rfl) (hs : starEach [a] X.env = [(false, eval a X.env)] := by rfl) :
    JI X e (.Tuple elts kk tpos) (.Call (.Name "enumerate" p) [a] [] pos) ss xs.length (fun i => mT [mInt i, g i]) ss1 :=
  ji_congr (pi_enumJ (rJ_sq hq ha) hm hg hs) (fun i hi => by
    rw [List.length_map] at hi
    show mT [mInt i, (xs.map f).getD i mTrue] = _
    rw [getD_map (d := d) hi, hg' i hi]) (by rw [List.length_map])
/-- while that a turn leaves -/
theorem js_whileT {k : Nat} {P : Nat → List Slot} {rs : Nat → Res} (h0 : Le ss (P 0)) (hc : ∀ i, i ≤ k → JT X e c (P i) true (P i)) (hb : ∀ i, i ≤ k → JSs X e body (P i) (rs i)) (hrs : ∀ i, i < k → Goes (rs i) (P (i + 1))) (hl : Leaves (rs k) r)
    (hp : PassesOwn (model X.prog X.w) X.A X.env X.xe) : JS X e (.While c body [] pos) ss r :=
  js_while (last := true) h0 (fun i hi => hc i (by omega)) (hc k (Nat.le_refl _)) (fun i hi => hb i (by omega)) (fun _ => hb k (Nat.le_refl _)) hrs (.inr ⟨rfl, hl⟩) hp
/-- len(d) of an own dict -/
theorem jlenN (i : Nat) {kvs : List (NestedKey × Int)} {q : Pos} (hm : X.mg "len" = none) (hs : ss[i]? = some (.own (oN X.w kvs)) := by rfl) (hN : X.N[i]? = some nm := by rfl) (hv : Vis X.env.scope nm := by first | exact Or.inl rfl | exact Or.inr (Or.inl rfl) | exact Or.inr (Or.inr rfl)) (hd : (nm == ("__debug__" : Str)) = false := by decide) (hcd : (nm == ("__classdict__" : Str)) = false := by decide)
    (hg : Gl X "len" := by rfl) (hst : starEach [.Name nm q] X.env = (false, eval (.Name nm q) X.env) :: starEach [] X.env := by rfl) (hpl : (backTo pos (starEach [] X.env)).any (·.1) = false := by rfl) : JE X e (.Call (.Name "len" p) [.Name nm q] [] pos) ss (mInt (kvs.length : Int)) ss := je_lenN hs hm hN hv hd hcd hg hst hpl
/-- the first i ≤ n with p i -/
def findT (p : Nat → Bool) (n : Nat) : Nat := ((List.range (n + 1)).find? p).getD 0
theorem findT_eq {p : Nat → Bool} {n T : Nat} (hT : T ≤ n) (h : p T = true) (hb : ∀ i, i < T → p i = false) : findT p n = T := by
  unfold findT
  have : (List.range (n + 1)).find? p = some T := by
    rw [List.find?_eq_some_iff_getElem]
    refine ⟨h, T, by simp; omega, by simp, fun j hj => ?_⟩
    rw [List.getElem_range, hb j hj]
    rfl
  rw [this]
  rfl
theorem first_of {p : Nat → Prop} [DecidablePred p] : ∀ n, (∃ i, i ≤ n ∧ p i) → ∃ T, T ≤ n ∧ p T ∧ ∀ i, i < T → ¬ p i
  | 0, ⟨i, hi, hp⟩ => by
    have : i = 0 := by omega
    subst this
    exact ⟨0, Nat.le_refl _, hp, fun i hi => absurd hi (Nat.not_lt_zero _)⟩
  | n + 1, ⟨i, hi, hp⟩ => by
    by_cases c : ∃ i, i ≤ n ∧ p i
    · obtain ⟨T, h1, h2, h3⟩ := first_of n c
      exact ⟨T, by omega, h2, h3⟩
    · refine ⟨i, hi, hp, fun j hj hpj => c ⟨j, by omega, hpj⟩⟩
theorem full_len : ∀ (f : Nat) (L : List Nat), (∀ v, v < f → v ∈ L) → f ≤ L.length
  | 0, _, _ => Nat.zero_le _
  | f + 1, L, h => by
    have ih := full_len f (L.erase f) fun v hv => (List.mem_erase_of_ne (by omega)).mpr (h v (by omega))
    have := List.length_erase_of_mem (h f (Nat.lt_succ_self f))
    have h2 : 0 < L.length := List.length_pos_of_mem (h f (Nat.lt_succ_self f))
    omega
end Jd

/-! text J19 -/
set_option Elab.async false
set_option linter.all false
set_option maxRecDepth 100000
set_option maxHeartbeats 4000000
namespace Jd
open PySem PySem.W L2 PySem.Spec PyProof.Rows
variable {X : Cx} {e : En} {ss ss' ss1 ss2 ss3 s0 : List Slot} {σ : L2.St} {F F' H H' : Hp} {a b c x y it elt tg : Expr} {pos p q : Pos} {m n o : Mp} {i j : Int} {ms : List Mp} {nm : Str} {st : Stmt} {rest body : List Stmt} {r : Res}
/-! ### values of which little is told -/
def mE {α : Type} (p : α → Prop) (f : α → Mp) : Mp := ⟨fun H v => ∃ a, p a ∧ (f a).p H v, fun x ⟨a, h1, h2⟩ => ⟨a, h1, (f a).up x h2⟩⟩
def oE {α : Type} (p : α → Prop) (f : α → Mo) : Mo := ⟨fun F a o => ∃ z, p z ∧ (f z).p F a o, fun x ⟨z, h1, h2⟩ => ⟨z, h1, (f z).up x h2⟩⟩
theorem mE_in {α : Type} {p : α → Prop} {f : α → Mp} {z : α} (hp : p z) {m : Mp} (hm : m = f z := by rfl) : ∀ H v, m.p H v → (mE p f).p H v := fun H v h => ⟨z, hp, by rw [← hm]; exact h⟩
theorem set_self {j : Nat} {s : Slot} (h : s0[j]? = some s) : s0.set j s = s0 := by
  obtain ⟨h1, h2⟩ := List.getElem?_eq_some_iff.mp h
  rw [← h2, List.set_getElem_self]
theorem Fit.exV {α : Type} {p : α → Prop} {f : α → Mp} {k : Nat} (I : Fit e ss σ F H) (h : ss[k]? = some (.val (mE p f))) : ∃ z, p z ∧ Fit e (ss.set k (.val (f z))) σ F H := by
  obtain ⟨o, h1, v, rfl, z, hz, hv⟩ := I.at_ k _ h
  refine ⟨z, hz, ?_⟩
  have := I.setV (i := k) hv
  obtain ⟨lt, e2⟩ := List.getElem?_eq_some_iff.mp h1
  rw [← e2, List.set_getElem_self] at this
  exact this
theorem Fit.exO {α : Type} {p : α → Prop} {f : α → Mo} {k : Nat} (I : Fit e ss σ F H) (h : ss[k]? = some (.own (oE p f))) : ∃ z, p z ∧ Fit e (ss.set k (.own (f z))) σ F H := by
  obtain ⟨o, h1, a, u, rfl, h2, h3, h4, h5, z, hz, hv⟩ := I.at_ k _ h
  refine ⟨z, hz, ?_⟩
  have := I.write (i := k) (n := f z) (w := u) h h1 hv
  rw [upd_id h2] at this
  exact this
theorem Fit.exB {α : Type} {p : α → Prop} {f : α → Mo} {k : Nat} {ad : Addr} (I : Fit e ss σ F H) (h : ss[k]? = some (.bor ad (oE p f))) : ∃ z, p z ∧ Fit e (ss.set k (.bor ad (f z))) σ F H := by
  obtain ⟨o, h1, rfl, _, _, _, u, h2, h3, z, hz, hv⟩ := I.at_ k _ h
  refine ⟨z, hz, ?_⟩
  have := I.writeB (i := k) (n := f z) (w := u) h hv
  rw [upd_id h2] at this
  exact this
theorem js_exV {α : Type} {p : α → Prop} {f : α → Mp} (k : Nat) (g : ∀ z, p z → JSs X e body (ss.set k (.val (f z))) r) (h : ss[k]? = some (.val (mE p f)) := by rfl) : JSs X e body ss r :=
  ⟨fun pins s σ H D I ⟨F, J, K⟩ => by
    obtain ⟨z, hz, J'⟩ := J.exV h
    exact (g z hz).run pins s σ H D I ⟨F, J', K⟩⟩
theorem js_exO {α : Type} {p : α → Prop} {f : α → Mo} (k : Nat) (g : ∀ z, p z → JSs X e body (ss.set k (.own (f z))) r) (h : ss[k]? = some (.own (oE p f)) := by rfl) : JSs X e body ss r :=
  ⟨fun pins s σ H D I ⟨F, J, K⟩ => by
    obtain ⟨z, hz, J'⟩ := J.exO h
    exact (g z hz).run pins s σ H D I ⟨F, J', K⟩⟩
theorem js_exB {α : Type} {p : α → Prop} {f : α → Mo} {ad : Addr} (k : Nat) (g : ∀ z, p z → JSs X e body (ss.set k (.bor ad (f z))) r) (h : ss[k]? = some (.bor ad (oE p f)) := by rfl) : JSs X e body ss r :=
  ⟨fun pins s σ H D I ⟨F, J, K⟩ => by
    obtain ⟨z, hz, J'⟩ := J.exB h
    exact (g z hz).run pins s σ H D I ⟨F, J', K⟩⟩
theorem je_exV {α : Type} {p : α → Prop} {f : α → Mp} (k : Nat) (g : ∀ z, p z → JE X e x (ss.set k (.val (f z))) m ss1) (h : ss[k]? = some (.val (mE p f)) := by rfl) : JE X e x ss m ss1 :=
  ⟨fun pins s σ H D I ⟨F, J, K⟩ => by
    obtain ⟨z, hz, J'⟩ := J.exV h
    exact (g z hz).run pins s σ H D I ⟨F, J', K⟩⟩
/-- more is told in a slot than is used -/
def Sub (s s' : Slot) : Prop := s = s' ∨ s' = .any ∨ (∃ m m', s = .val m ∧ s' = .val m' ∧ ∀ H v, m.p H v → m'.p H v) ∨ (∃ m m', s = .own m ∧ s' = .own m' ∧ ∀ F a o, m.p F a o → m'.p F a o) ∨ ∃ ad m m', s = .bor ad m ∧ s' = .bor ad m' ∧ ∀ F a o, m.p F a o → m'.p F a o
theorem Fit.sub1 (I : Fit e ss σ F H) {k : Nat} {s s' : Slot} (h : ss[k]? = some s) (hs : Sub s s') : Fit e (ss.set k s') σ F H := by
  rcases hs with rfl | rfl | ⟨m, m', rfl, rfl, hm⟩ | ⟨m, m', rfl, rfl, hm⟩ | ⟨ad, m, m', rfl, rfl, hm⟩
  · rw [set_self h]; exact I
  · exact I.weak ⟨List.length_set.symm, fun i s' q => by
      by_cases z : i = k
      · subst z
        rw [List.getElem?_set_self (List.getElem?_eq_some_iff.mp h).1] at q
        exact .inl (Option.some.inj q).symm
      · rw [List.getElem?_set_ne (fun h => z h.symm)] at q
        exact .inr q⟩
  · obtain ⟨o, h1, v, rfl, hv⟩ := I.at_ k _ h
    have := I.setV (i := k) (hm _ _ hv)
    obtain ⟨lt, e2⟩ := List.getElem?_eq_some_iff.mp h1
    rw [← e2, List.set_getElem_self] at this
    exact this
  · obtain ⟨o, h1, a, u, rfl, h2, h3, h4, h5, hv⟩ := I.at_ k _ h
    have := I.write (i := k) (n := m') (w := u) h h1 (hm _ _ _ hv)
    rw [upd_id h2] at this
    exact this
  · obtain ⟨o, h1, rfl, _, _, _, u, h2, h3, hv⟩ := I.at_ k _ h
    have := I.writeB (i := k) (n := m') (w := u) h (hm _ _ _ hv)
    rw [upd_id h2] at this
    exact this
theorem js_sub1 (k : Nat) {s s' : Slot} (h : JSs X e body ss (.nx ss1)) (hs : Sub s s') (hk : ss1[k]? = some s := by rfl) : JSs X e body ss (.nx (ss1.set k s')) :=
  PSs_mono h fun D σ H ⟨F, I, K⟩ => ⟨F, I, fun σ' F' H' x1 I1 => K σ' F' H' x1 (I1.sub1 hk hs)⟩
theorem js_sub1R (k : Nat) {s s' : Slot} (h : JSs X e body ss (.rt m ss1)) (hs : Sub s s') (hk : ss1[k]? = some s := by rfl) : JSs X e body ss (.rt m (ss1.set k s')) :=
  PSs_mono h fun D σ H ⟨F, I, K⟩ => ⟨F, I, fun v σ' F' H' x1 I1 hv => K v σ' F' H' x1 (I1.sub1 hk hs) hv⟩
theorem Sub.V {m m' : Mp} (h : ∀ H v, m.p H v → m'.p H v) : Sub (.val m) (.val m') := .inr (.inr (.inl ⟨m, m', rfl, rfl, h⟩))
theorem Sub.O {m m' : Mo} (h : ∀ F a o, m.p F a o → m'.p F a o) : Sub (.own m) (.own m') := .inr (.inr (.inr (.inl ⟨m, m', rfl, rfl, h⟩)))
theorem Sub.B {ad : Addr} {m m' : Mo} (h : ∀ F a o, m.p F a o → m'.p F a o) : Sub (.bor ad m) (.bor ad m') := .inr (.inr (.inr (.inr ⟨ad, m, m', rfl, rfl, h⟩)))
/-! ### a def that hands back a new object -/
def spF {ι : Type} (pre : ι → Prop) (ins : ι → List Mp) (out : ι → Mo) : Sp := fun vs H Q _ => ∃ i, pre i ∧ ∃ F, Ex F H ∧ allP F (ins i) vs ∧ ∀ a u F' H', Frame F H F' H' → H' a = some u → F' a = none → H a = none → (out i).p F' a u → Q (.ref a) H'
abbrev JF (X : Cx) (e : En) (body : List Stmt) (ss : List Slot) (mo : Mo) : Prop := PSs X body (fun D σ H => ∃ F, Fit e ss σ F H ∧ ∀ a σ' F' H' ss', Ex F F' → Fit e ss' σ' F' H' → Own1 e ss' σ' F' H' a mo → D.rt (.ref a) H')
theorem jf_ret {mo : Mo} (h : JO X e x ss mo ss1) : JF X e [.Return (some x) pos] ss mo :=
  pss_one (PS_mono (ps_ret h) fun D σ H ⟨F, I, k⟩ => ⟨F, I, fun a F' H' x1 I1 O => k a σ F' H' ss1 x1 I1 O⟩)
theorem jf_cons {mo : Mo} (h1 : JS X e st ss (.nx ss1)) (h2 : JF X e rest ss1 mo) : JF X e (st :: rest) ss mo :=
  PSs_mono (pss_cons h1 h2) fun D σ H ⟨F, I, k⟩ => ⟨F, I, fun σ' F' H' x1 I1 => ⟨F', I1, fun a σ2 F2 H2 s2 x2 I2 O => k a σ2 F2 H2 s2 (x1.trans x2) I2 O⟩⟩
theorem jf_exV {mo : Mo} {α : Type} {p : α → Prop} {f : α → Mp} (k : Nat) (g : ∀ z, p z → JF X e body (ss.set k (.val (f z))) mo) (h : ss[k]? = some (.val (mE p f)) := by rfl) : JF X e body ss mo :=
  ⟨fun pins s σ H D I ⟨F, J, K⟩ => by
    obtain ⟨z, hz, J'⟩ := J.exV h
    exact (g z hz).run pins s σ H D I ⟨F, J', K⟩⟩
theorem jf_ifr {mo : Mo} {t : Bool} {A : List Stmt} (hc : JT X e c ss t ss1) (hA : t = true → JF X e A ss1 mo) (hB : t = false → JF X e rest ss1 mo) : JF X e (.If c A [] pos :: rest) ss mo := by
  cases t with
  | true => exact PSs_mono (pss_cons (ps_if hc (hA rfl) (pss_never (X := X) (sts := []))) (pss_never (X := X) (sts := rest))) fun D σ H ⟨F, I, k⟩ => ⟨F, I, fun F1 H1 x1 I1 => iteT ⟨F1, I1, fun a σ' F' H' s' x2 I2 O => k a σ' F' H' s' (x1.trans x2) I2 O⟩⟩
  | false => exact PSs_mono (pss_cons (ps_if hc (pss_never (X := X) (sts := A)) pss_nil) (hB rfl)) fun D σ H ⟨F, I, k⟩ => ⟨F, I, fun F1 H1 x1 I1 => iteF ⟨F1, I1, fun a σ' F' H' s' x2 I2 O => k a σ' F' H' s' (x1.trans x2) I2 O⟩⟩
theorem fn_fresh {P : Program} {w : World} {K : PySem.W.Frag} {mg : Str → Option Value} {base : Heap} {nm qual : Str} {params : Arguments} {bd : List Stmt} {scope : Scope} {dvs : List V} {kws : List (Str × V)} {f : Addr} {fd : FuncData} {N ps : List Str} {k : Nat} {ι : Type} {pre : ι → Prop} {ins : ι → List Mp} {out : ι → Mo}
    (D : FunD K nm qual params bd scope dvs kws f fd) (S : FnScope N ps scope) (hl : ∀ i, (ins i).length = ps.length) (hN : ps.length ≤ N.length)
    (hb : ∀ i, pre i → ∀ (cdv : Value) (A : Around) (outer : List Env) (s : Shared) (H : Hp) (E : XK) (e : En), Room k (A.deeper (envOfC qual scope s.heap.objs.size f cdv)) →
      JF (cxOf CX0 P w K mg base N qual scope f cdv A outer s H E).nox e bd (starts N ((ins i).map .val)) (out i)) : FnOk P w K mg base CX0 (k + 1) f fd ps (spF pre ins out) := by
  refine D.ok S (fun vs H Q E h => by
    obtain ⟨i, _, F, _, hA, _⟩ := h
    rw [hA.length, hl]) fun cdv A outer s H vs Q E hr hsp => ?_
  obtain ⟨i, hp, F, hs, hA, q⟩ := hsp
  refine ⟨_, PSs.nox (hb i hp cdv A outer s H E { f := F, h := H, m := fun _ => False, k := fun _ => none } hr), F, fit_start hs hA (by rw [hl]; exact hN), fun a σ' F' H' ss' x I O => ?_⟩
  obtain ⟨u, hu, hm⟩ := O.u
  refine q a u F' H' ⟨x, I.sub, fun b o h => ?_, fun b h1 h2 => I.new b h1 h2⟩ hu O.f O.h hm
  rcases I.keep b o h with z | ⟨z, _⟩
  · exact z
  · exact z.elim
section
variable {k : Nat} {f C : Addr} {fd : FuncData} {ps : List Str} {ι : Type} {pre : ι → Prop} {ins : ι → List Mp} {out : ι → Mp} {outO b0 b1 : ι → Mo} {es : List Expr}
theorem jo_callN {i : ι} (G : FnOk X.prog X.w X.K X.mg X.base CX0 k f fd ps (spF pre ins outO)) (hr : Room k X.A) (hm : X.mg nm = some (.ref f)) (hk : PySem.W.keepIn X.K (.ref f) = true) (hb : Binds X.K fd ps [])
    (ha : JA X e (x :: es) ss (ins i) ss1) (hp : pre i) (hg : Gl X nm := by rfl) (hdb : (nm == ("__debug__" : Str)) = false := by decide) (he : starEach (x :: es) X.env = (false, eval x X.env) :: starEach es X.env := by rfl) (hpl : (backTo pos (starEach es X.env)).any (·.1) = false := by rfl) :
    JO X e (.Call (.Name nm p) (x :: es) [] pos) ss (outO i) ss1 :=
  PE_mono (pe_call (E := fun _ _ _ => False) G hr hg hm hk hb .nil pass0 ha hdb he hpl) fun σ H Q ⟨F, I, K⟩ => ⟨F, I, fun vs F1 H1 x1 I1 hA =>
    ⟨i, hp, F1, I1.sub, by rw [List.append_nil]; exact hA, fun ad u F' H' fr hu hf hn hm => K ad F' H' (x1.trans fr.f) (I1.called fr) ⟨⟨u, hu, hm⟩, hf, (by
      cases z : e.h ad with
      | none => rfl
      | some o =>
        rcases I1.keep ad o z with w | ⟨_, w⟩
        · rw [hn] at w; cases w
        · exact absurd hn w), (by
      cases z : e.k ad with
      | none => rfl
      | some o =>
        obtain ⟨w, _⟩ := I1.kept ad o z
        rw [hn] at w; cases w), fun j n h z => by
      obtain ⟨o, q1, a2, u2, rfl, q2, _⟩ := I1.at_ j _ h
      rw [q1] at z
      cases z
      rw [hn] at q2; cases q2⟩⟩⟩
theorem PA_any {ι : Type} {xs : List Expr} {t : ι → TA} (h : ∀ i, PA X xs (t i)) : PA X xs (fun σ H Q => ∃ i, t i σ H Q) := ⟨fun w pins s σ H Q I ⟨i, q⟩ => (h i).run w pins s σ H Q I q⟩
/-- the first argument is a new object, lent to the def -/
theorem je_callF {i : ι} {mo : Mo} (G : FnOk X.prog X.w X.K X.mg X.base CX0 k f fd ps (spB pre b0 b1 ins out)) (hr : Room k X.A) (hm : X.mg nm = some (.ref f)) (hk : PySem.W.keepIn X.K (.ref f) = true) (hb : Binds X.K fd ps [])
    (h0 : JO X e x ss mo ss1) (ha : ∀ kk, JA X (e.kp kk) es ss1 (ins i) ss2) (hmo : b0 i = mo) (hp : pre i) (hg : Gl X nm := by rfl) (hdb : (nm == ("__debug__" : Str)) = false := by decide) (he : starEach (x :: es) X.env = (false, eval x X.env) :: starEach es X.env := by rfl) (hpl : (backTo pos (starEach es X.env)).any (·.1) = false := by rfl) :
    JE X e (.Call (.Name nm p) (x :: es) [] pos) ss (out i) ss2 :=
  PE_mono (pe_call (E := fun _ _ _ => False) G hr hg hm hk hb .nil pass0 (pa_cons h0 (PA_any ha) he) hdb he hpl) fun σ H Q ⟨F, I, K⟩ => ⟨F, I, fun ad F1 H1 x1 I1 O => by
    obtain ⟨u, hu, hmu⟩ := O.u
    have J := I1.keepD hu O.f (.inl O.k) (fun i m h => O.ne i m h) (fun i a m h z => by
      obtain ⟨o, _, _, _, q3, _⟩ := I1.at_ i _ h
      rw [z] at q3
      exact q3 O.h)
    refine ⟨_, F1, J, fun vs F2 H2 x2 I2 hA => ?_⟩
    obtain ⟨hD, hDF⟩ := I2.kept ad u (by show (if _ then _ else _) = _; rw [if_pos rfl])
    refine ⟨i, hp, F2, ad, u, vs ++ [], rfl, I2.sub, hD, hDF, by rw [hmo]; exact mo.up x2 hmu, by rw [List.append_nil]; exact hA, fun v F' H' u' fr hu' _ hv => K v F' H' (x1.trans (x2.trans fr.f)) ?_ hv⟩
    have hl : ss2.length = ss1.length := I2.len.symm.trans I1.len
    have J3 := (I2.rekeep (w := u') O.h)
    have J4 : Fit e ss2 σ F2 (upd H2 ad u') := Fit.unwipe (P0 := ss1) (P1 := ss2) (vs := []) (F0 := F1) (H0 := H1) I1 x2 J3 (fun a o q => by
      show (if a = ad then _ else e.k a) = some o
      by_cases z : a = ad
      · rw [z, O.k] at q; cases q
      · rw [if_neg z]; exact q) hl (fun i hi => nomatch hi) (fun i hi => nomatch hi)
    refine J4.frame fr.f fr.s (fun b o q => ?_) (fun b q1 q2 => ?_)
    · by_cases z : b = ad
      · subst z; rw [upd_same] at q; cases q; exact hu'
      · rw [upd_ne z] at q; exact fr.h b o z q
    · by_cases z : b = ad
      · subst z; exact fr.n b q1 (some_ne hD)
      · rw [upd_ne z] at q2; exact fr.n b q1 q2⟩
end
end Jd

/-! text J20 -/
set_option Elab.async false
set_option linter.all false
set_option maxRecDepth 100000
set_option maxHeartbeats 4000000
namespace Jd
open PySem PySem.W L2 PySem.Spec PyProof.Rows
variable {X : Cx} {e : En} {ss ss' ss1 ss2 ss3 s0 : List Slot} {σ : L2.St} {F F' H H' : Hp} {a b c x y it elt tg : Expr} {pos p q : Pos} {m n o : Mp} {i j : Int} {ms : List Mp} {nm : Str} {st : Stmt} {rest body : List Stmt} {r : Res}
def mRng (n : Int) : Mp := mE (fun i : Int => 0 ≤ i ∧ i < n) mInt
def mAI : Mp := mE (fun _ : Int => True) mInt
theorem mAI_in : ∀ H v, (mInt i).p H v → mAI.p H v := mE_in trivial
theorem mAI_rng {k : Int} : ∀ H v, (mRng k).p H v → mAI.p H v := fun H v ⟨z, _, h⟩ => ⟨z, trivial, h⟩
/-! ### ints of which little is told -/
theorem je_addU (ha : JE X e a ss mAI ss1) (hb : JE X e b ss1 mAI ss2) : JE X e (.BinOp a .Add b pos) ss mAI ss2 :=
  je_op (m := mAI) (n := mAI) (o := mAI) op_add (fun F H x y Q _ ⟨i, _, hx⟩ ⟨j, _, hy⟩ q => ⟨i, j, hx, hy, q _ ⟨i + j, trivial, rfl⟩⟩) ha hb
def rTU (e : En) (ss ss' : List Slot) : TT := fun σ H Q => ∃ F, Fit e ss σ F H ∧ ∀ t F' H', Ex F F' → Fit e ss' σ F' H' → Q t H'
/-- a test whose answer is not told -/
abbrev JTU (X : Cx) (e : En) (x : Expr) (ss ss' : List Slot) : Prop := PT X x (rTU e ss ss')
theorem jtu_eq (ha : JE X e a ss mAI ss1) (hb : JE X e b ss1 (mInt j) ss2) : JTU X e (.Compare a [.Eq] [b] pos) ss ss2 :=
  PT_mono (pt_cmpR op_eq ha hb (nomark _)) fun σ H Q ⟨F, I, k⟩ => ⟨F, I, fun x F1 H1 x1 I1 hx => ⟨F1, I1, fun y F2 H2 x2 I2 hy => by
    obtain ⟨i, _, hx⟩ := hx
    cases hx; cases hy
    exact ⟨rfl, _, rfl, k _ F2 H2 (x1.trans x2) I2⟩⟩⟩
theorem js_ifU {A B : List Stmt} (hc : JTU X e c ss ss1) (hA : JSs X e A ss1 r) (hB : JSs X e B ss1 r) : JS X e (.If c A B pos) ss r :=
  PS_mono (ps_if hc hA hB) fun D σ H ⟨F, I, k⟩ => ⟨F, I, fun t F1 H1 x1 I1 => by
    cases t with
    | true => exact iteT ⟨F1, I1, Res.to_ex x1 k⟩
    | false => exact iteF ⟨F1, I1, Res.to_ex x1 k⟩⟩
/-- an item at an index of which the range is told -/
theorem je_ixR {k : Int} (ha : JP X e a ss ms ss1) (hb : JE X e b ss1 (mRng k) ss1) (hk : k ≤ ms.length) (hs : PlainIx b := by exact fun _ _ => rfl) : JE X e (.Subscript a b pos) ss (mE (fun j : Nat => j < ms.length) (fun j => ms.getD j mTrue)) ss1 :=
  PE_mono (pe_ix ix_list ha hb hs) fun σ H Q ⟨F, I, K⟩ => ⟨F, I, fun ad F1 H1 x1 I1 hp => ⟨F1, I1, fun y F2 H2 x2 I2 ⟨i, ⟨hi, hk'⟩, hy⟩ => by
    obtain rfl : y = .int i := hy
    obtain ⟨vs, hS, hA⟩ := Pk.get (K := X.K) I2 (hp.ex x2)
    have lt : i.toNat < ms.length := by omega
    have ha := atI_nat (getD_some (xs := ms) (d := mTrue) lt)
    rw [Int.toNat_of_nonneg hi] at ha
    obtain ⟨v, hv, hm⟩ := hA.atI ha
    exact ⟨ad, vs, i, v, rfl, rfl, hS, hv, K v F2 H2 (x1.trans x2) I2 ⟨i.toNat, lt, hm⟩⟩⟩⟩
/-! ### lists of such -/
theorem allP_E {α : Type} {p : α → Prop} {f : α → Mp} {H : Hp} : ∀ (n : Nat) (vs : List V), allP H (List.replicate n (mE p f)) vs → ∃ xs : List α, xs.length = n ∧ (∀ x ∈ xs, p x) ∧ allP H (xs.map f) vs
  | 0, [], _ => ⟨[], rfl, (fun x hx => by cases hx), trivial⟩
  | n + 1, v :: vs, h => by
    rw [List.replicate_succ] at h
    obtain ⟨z, hz, hv⟩ := h.1
    obtain ⟨xs, h1, h2, h3⟩ := allP_E n vs h.2
    refine ⟨z :: xs, by rw [List.length_cons, h1], fun x hx => ?_, hv, h3⟩
    rcases List.mem_cons.mp hx with w | w
    · rw [w]; exact hz
    · exact h2 x w
  | 0, _ :: _, h => h.elim
  | _ + 1, [], h => h.elim
theorem rng_rep {α : Type} {m : α} {N : Nat} : (List.range N).map (fun _ => m) = List.replicate N m := by
  rw [List.map_const', List.length_range]
theorem mL_E {α : Type} {p : α → Prop} {f : α → Mp} {N : Nat} : ∀ H v, (mL ((List.range N).map fun _ => mE p f)).p H v → (mE (fun xs : List α => xs.length = N ∧ ∀ x ∈ xs, p x) (fun xs => mL (xs.map f))).p H v := fun H v ⟨a, vs, h1, h2, h3⟩ => by
  rw [rng_rep] at h3
  obtain ⟨xs, e1, e2, e3⟩ := allP_E N vs h3
  exact ⟨xs, ⟨e1, e2⟩, a, vs, h1, h2, e3⟩
end Jd

/-! text J21 -/
set_option Elab.async false
set_option linter.all false
set_option maxRecDepth 100000
set_option maxHeartbeats 4000000
namespace Jd
open PySem PySem.W L2 PySem.Spec PyProof.Rows
variable {X : Cx} {e : En} {ss ss' ss1 ss2 ss3 s0 : List Slot} {σ : L2.St} {F F' H H' : Hp} {a b c x y it elt tg : Expr} {pos p q : Pos} {m n o : Mp} {i j : Int} {ms : List Mp} {nm : Str}
abbrev chrC (c : Nat) : Str := ⟨#[c]⟩
theorem join_chr (cs : List Nat) : Txt.join ⟨#[]⟩ (cs.map chrC) = ⟨cs.toArray⟩ := by
  have go : ∀ (cs : List Nat) (acc : Array Nat), (cs.map chrC).foldl (fun acc p => acc ++ (⟨#[]⟩ : Str).cps ++ p.cps) acc = acc ++ cs.toArray := by
    intro cs
    induction cs with
    | nil => intro acc; simp
    | cons c cs ih => intro acc; rw [List.map_cons, List.foldl_cons, ih]; simp
  cases cs with
  | nil => rfl
  | cons c cs =>
    show (⟨(cs.map chrC).foldl (fun acc p => acc ++ (⟨#[]⟩ : Str).cps ++ p.cps) #[c]⟩ : Str) = _
    rw [go]
    simp
/-- a letter of a text, the index's range told -/
theorem je_ixSR {z : Str} {k : Int} (ha : JE X e a ss (mStr z) ss1) (hb : JE X e b ss1 (mRng k) ss2) (hl : z.length ≤ 100000) (hk : k ≤ z.length) (hs : PlainIx b := by exact fun _ _ => rfl) : JE X e (.Subscript a b pos) ss (mE (fun c : Nat => c ∈ z.cps.toList) (fun c => mStr (chrC c))) ss2 :=
  PE_mono (pe_ix ix_str ha hb hs) fun σ H Q ⟨F, I, K⟩ => ⟨F, I, fun w F1 H1 x1 I1 hp => ⟨F1, I1, fun y F2 H2 x2 I2 ⟨i, ⟨hi, hk'⟩, hy⟩ => by
    obtain rfl : w = .str z := hp
    obtain rfl : y = .int i := hy
    have lt : i.toNat < z.cps.toList.length := by rw [Array.length_toList]; show i.toNat < z.length; omega
    have ha := atI_nat (getD_some (xs := z.cps.toList) (d := 0) lt)
    rw [Int.toNat_of_nonneg hi] at ha
    refine ⟨z, i, z.cps.toList.getD i.toNat 0, rfl, rfl, Evl.sz_of hl, ha, K _ F2 H2 (x1.trans x2) I2 ⟨_, ?_, rfl⟩⟩
    rw [List.getD_eq_getElem?_getD, List.getElem?_eq_getElem lt]
    exact List.getElem_mem _⟩⟩
/-- ''.join of a list of such letters -/
theorem je_joinE {N : Nat} {P : Nat → Prop} {apos : Pos} (ha : JE X e a ss (mStr ⟨#[]⟩) ss1) (hb : JE X e b ss1 (mL ((List.range N).map fun _ => mE P fun c => mStr (chrC c))) ss2) (hl : N ≤ 100000) (hs : starEach [b] X.env = [(false, eval b X.env)] := by rfl) (hbase : attributeBase a "join" X.env (eval a X.env) = eval a X.env := by rfl) (hline : (apos.endLine == pos.line) = true := by rfl) :
    JE X e (.Call (.Attribute a "join" apos) [b] [] pos) ss (mE (fun cs : List Nat => cs.length = N ∧ ∀ c ∈ cs, P c) (fun cs => mStr ⟨cs.toArray⟩)) ss2 :=
  PE_mono (pe_join ha hb hs hbase hline) fun σ H Q ⟨F, I, k⟩ => ⟨F, I, fun v F1 H1 x1 I1 hv => ⟨⟨_, hv⟩, F1, I1, fun w F2 H2 x2 I2 hw => by
    obtain ⟨cs, ⟨c1, c2⟩, hw2⟩ := mL_E H2 w ((mL _).up I2.sub hw)
    obtain ⟨p, vs, rfl, h1, h2⟩ := hw2
    have e : vs = (cs.map chrC).map V.str := by
      have := allP_strs (ys := cs.map chrC) (by rw [List.map_map]; exact h2)
      exact this
    subst e
    refine ⟨⟨#[]⟩, p, cs.map chrC, hv, rfl, .inl (.inl h1), ?_, ?_⟩
    · have : ∀ l : List Nat, ((l.map chrC).map (·.length)).sum = l.length := by
        intro l
        induction l with
        | nil => rfl
        | cons c l ih => rw [List.map_cons, List.map_cons, List.sum_cons, ih, List.length_cons]; show 1 + _ = _; omega
      rw [this, c1]
      show N + _ * 0 ≤ _
      omega
    · rw [join_chr]
      exact k _ F2 H2 (x1.trans x2) I2 ⟨cs, ⟨c1, c2⟩, rfl⟩⟩⟩
end Jd

/-! text J22 -/
set_option Elab.async false
set_option linter.all false
set_option maxRecDepth 100000
set_option maxHeartbeats 4000000
namespace Jd
open PySem PySem.W L2 PySem.Spec PyProof.Rows
variable {X : Cx} {e : En} {ss ss' ss1 ss2 ss3 s0 : List Slot} {σ : L2.St} {F F' H H' : Hp} {a b c x y it elt tg : Expr} {pos p q : Pos} {m n o : Mp} {i j : Int} {ms : List Mp} {nm : Str} {st : Stmt} {rest body : List Stmt} {r : Res}
/-! ### what is raised -/
abbrev Xp := Hp → Value → Option Addr → Prop
def xpF (C : Addr) (f : Str) (m : Mp) : Xp := fun F cls d => cls = .ref C ∧ ∃ dd v, d = some dd ∧ F dd = some (.xd [(f, v)]) ∧ m.p F v
def mNo : Mp := ⟨fun _ _ => False, fun _ h => h⟩
def spX {ι : Type} (pre : ι → Prop) (ins : ι → List Mp) (xp : ι → Xp) : Sp := fun vs H Q E => ∃ i, pre i ∧ ∃ F, Ex F H ∧ allP F (ins i) vs ∧ ∀ cls d F' H', Frame F H F' H' → xp i F' cls d → E cls d H'
/-- what the body lets out is taken -/
def Air (X : Cx) (e : En) (xp : Xp) : Prop := ∃ W : WX, Takes X W ∧ ∀ ss σ F H cls d, Fit e ss σ F H → xp F cls d → W cls d σ H
theorem Fit.framed {F0 H0 : Hp} (I : Fit { f := F0, h := H0, m := fun _ => False, k := fun _ => none } ss σ F H) : Frame F0 H0 F H :=
  ⟨I.up, I.sub, fun b o h => (I.keep b o h).elim id fun z => z.1.elim, fun b h1 h2 => I.new b h1 h2⟩
section
variable {P : Program} {w : World} {K : PySem.W.Frag} {mg : Str → Option Value} {base : Heap} {qual : Str} {params : Arguments} {bd : List Stmt} {scope : Scope} {dvs : List V} {kws : List (Str × V)} {f : Addr} {fd : FuncData} {N ps : List Str} {k : Nat} {ι : Type} {pre : ι → Prop} {ins : ι → List Mp} {xp : ι → Xp}
theorem fn_raise (D : FunD K nm qual params bd scope dvs kws f fd) (S : FnScope N ps scope) (hl : ∀ i, (ins i).length = ps.length) (hN : ps.length ≤ N.length)
    (hb : ∀ i, pre i → ∀ (cdv : Value) (A : Around) (outer : List Env) (s : Shared) (H : Hp) (E : XK) (e : En), Room k (A.deeper (envOfC qual scope s.heap.objs.size f cdv)) → Air (cxOf (CX P w) P w K mg base N qual scope f cdv A outer s H E) e (xp i) →
      ∃ ss', JSs (cxOf (CX P w) P w K mg base N qual scope f cdv A outer s H E) e bd (starts N ((ins i).map .val)) (.rt mNo ss')) : FnOk P w K mg base (CX P w) (k + 1) f fd ps (spX pre ins xp) := by
  refine D.ok S (fun vs H Q E h => by
    obtain ⟨i, _, F, _, hA, _⟩ := h
    rw [hA.length, hl]) fun cdv A outer s H vs Q E hr hsp => ?_
  obtain ⟨i, hp, F, hs, hA, g⟩ := hsp
  obtain ⟨ss', hJ⟩ := hb i hp cdv A outer s H E { f := F, h := H, m := fun _ => False, k := fun _ => none } hr ⟨fun cls d _ H => E cls d H, takes_of rfl rfl rfl rfl, fun ss σ F' H' cls d I hx => g cls d F' H' I.framed hx⟩
  exact ⟨_, hJ, F, fit_start hs hA (by rw [hl]; exact hN), fun v σ' F' H' x I hv => False.elim hv⟩
end
/-- nothing comes behind it -/
theorem js_dead {k : Nat} (h : JS X e st ss (.nx ss1)) (hk : ss1[k]? = some (.val m)) (hm : ∀ F v, ¬ m.p F v) : JS X e st ss r :=
  PS_mono h fun D σ H ⟨F, I, K⟩ => ⟨F, I, fun σ' F' H' x1 I1 => by
    obtain ⟨o, _, v, _, hv⟩ := I1.at_ k _ hk
    exact (hm _ _ hv).elim⟩
theorem js_exprX (he : JE X e x ss mNo ss1) (hs : swapsWith x none pos.line X.env = pure false := by rfl) : JS X e (.Expr x pos) ss r :=
  PS_mono (ps_expr he hs) fun D σ H ⟨F, I, K⟩ => ⟨F, I, fun v F' H' x1 I1 hv => False.elim hv⟩
/-- an expression that makes an exception -/
def JM (X : Cx) (e : En) (x : Expr) (ss : List Slot) (xp : Xp) : Prop := ∃ t, PMk X x t ∧ ∀ σ F H Q, Fit e ss σ F H → (∀ cls d F' H' ss', Fit e ss' σ F' H' → xp F' cls d → Q cls d H') → t σ H Q
theorem js_raise {xp : Xp} (A : Air X e xp) (h : JM X e x ss xp) (hc : X.calm = true := by rfl) : JS X e (.Raise (some x) none pos) ss r := by
  obtain ⟨W, tk, hW⟩ := A
  obtain ⟨t, hm, ht⟩ := h
  exact PS_mono (ps_raise hc tk hm) fun D σ H ⟨F, I, _⟩ => ht σ F H _ I fun cls d F' H' ss' I' hx => hW _ _ _ _ _ _ I' hx
/-- the promise of an __init__ that says self.f = thing -/
def spSet (K : PySem.W.Frag) (f : Str) : Sp := fun vs H Q _ => ∃ (a C : Addr) (v : V), vs = [.ref a, v] ∧ OexC K C ∧ PySem.W.findIn K (.ref C) f = some none ∧ H a = some (exo a C none) ∧ ∀ dx, H dx = none → dx ≠ a → Q .non (upd (upd H dx (exd dx [(f, v)])) a (exo a C (some dx)))
/-- such a class -/
structure MkX (K : PySem.W.Frag) (C fI : Addr) (f : Str) : Prop where
  o : OexC K C
  i : PySem.W.findIn K (.ref C) "__init__" = some (some (.ref fI))
  t : PySem.W.typeIn K (.ref fI) = some (.type "function")
  n : PySem.W.findIn K (.ref C) f = some none
theorem jm_make {C fI : Addr} {f : Str} {k : Nat} {fd : FuncData} {ps : List Str} (M : MkX X.K C fI f) (G : FnOk X.prog X.w X.K X.mg X.base CX0 k fI fd ps (spSet X.K f)) (hr : Room (k + 1) X.A) (hb : Binds X.K fd ps []) (hm : X.mg nm = some (.ref C)) (ha : JE X e x ss m ss1)
    (hg : Gl X nm := by rfl) (hdb : (nm == ("__debug__" : Str)) = false := by decide) (he : starEach [x] X.env = (false, eval x X.env) :: starEach [] X.env := by rfl) (hpl : (backTo pos (starEach [] X.env)).any (·.1) = false := by rfl) :
    JM X e (.Call (.Name nm p) [x] [] pos) ss (xpF C f m) := by
  refine ⟨_, pmk_oex M.o M.i M.t G hr hb .nil pass0 hg hm (ja1 ha he) hdb he hpl, fun σ F H Q I K => ⟨F, I, fun vs F1 H1 x1 I1 hA => ?_⟩⟩
  match vs, hA with
  | [v], hA =>
    obtain ⟨hv, _⟩ := hA
    refine ⟨by show (1 : Nat) ≤ 1000; decide, fun ad hn => ⟨ad, C, v, rfl, M.o, M.n, upd_same, fun dx hd ne => ⟨rfl, dx, [(f, v)], upd_same, by rw [upd_ne ne, upd_same], ?_, ?_⟩⟩⟩
    · rw [upd_ne ne] at hd; exact hd
    · rw [upd_ne ne] at hd
      have eq : upd (del (upd (upd (upd H1 ad (exo ad C none)) dx (exd dx [(f, v)])) ad (exo ad C (some dx))) ad) dx (.xd [(f, v)]) = upd H1 dx (.xd [(f, v)]) := by
        funext u
        by_cases z : u = dx
        · rw [z, upd_same, upd_same]
        · rw [upd_ne z, upd_ne z]
          by_cases z2 : u = ad
          · rw [z2, del_same, hn]
          · rw [del_ne z2, upd_ne z2, upd_ne z, upd_ne z2]
      rw [eq]
      exact K _ _ _ _ ss1 (I1.lay hd) ⟨rfl, dx, v, rfl, upd_same, m.up (Ex.new (I1.sub.back hd)) hv⟩
/-! ### calls that raise -/
section
variable {k : Nat} {f : Addr} {fd : FuncData} {ps ks : List Str} {ι : Type} {pre : ι → Prop} {ins : ι → List Mp} {xp : ι → Xp} {es : List Expr} {kws : List Keyword} {n1 : Nat} {W : WX} {ks' : List Mp}
/-- an expression that raises: the wish at the slots as they stand -/
abbrev JX (X : Cx) (e : En) (W : WX) (x : Expr) (ss : List Slot) (xp : Xp) (ss' : List Slot) : Prop := PE X x fun σ H _ => ∃ F, Fit e ss σ F H ∧ ∀ cls d F' H', Ex F F' → Fit e ss' σ F' H' → xp F' cls d → W cls d σ H'
theorem je_ofX {xp : Xp} (A : Air X e xp) (h : ∀ W, Takes X W → JX X e W x ss xp ss1) : JE X e x ss m ss2 := by
  obtain ⟨W, tk, hW⟩ := A
  exact PE_mono (h W tk) fun σ H Q ⟨F, I, _⟩ => ⟨F, I, fun cls d F' H' x1 I1 hx => hW _ _ _ _ _ _ I1 hx⟩
theorem jx_call {i : ι} (tk : Takes X W) (G : FnOk X.prog X.w X.K X.mg X.base (CX X.prog X.w) k f fd ps (spX pre ins xp)) (hr : Room k X.A) (hm : X.mg nm = some (.ref f)) (hk : PySem.W.keepIn X.K (.ref f) = true) (hb : Binds X.K fd ps [])
    (ha : JA X e (x :: es) ss ms ss1) (hi : ins i = ms) (hp : pre i) (hg : Gl X nm := by rfl) (hdb : (nm == ("__debug__" : Str)) = false := by decide) (he : starEach (x :: es) X.env = (false, eval x X.env) :: starEach es X.env := by rfl) (hpl : (backTo pos (starEach es X.env)).any (·.1) = false := by rfl) :
    JX X e W (.Call (.Name nm p) (x :: es) [] pos) ss (xp i) ss1 :=
  PE_mono (pe_callS (E := WE W) G hr hg hm hk hb (fun σ => passAt tk σ) ha hdb he hpl) fun σ H Q ⟨F, I, K⟩ => ⟨F, I, fun vs F1 H1 x1 I1 hA =>
    ⟨i, hp, F1, I1.sub, by rw [hi]; exact hA, fun cls d F' H' fr hx => K cls d F' H' (x1.trans fr.f) (I1.called fr) hx⟩⟩
theorem pe_callNS {n1 : Nat} {sp : Sp} {t tkw : TA} {g : List Value → List Value → List Value} {gV : List V → List V → List V} (tk : Takes X W) (G : FnOk X.prog X.w X.K X.mg X.base (CX X.prog X.w) k f fd ps sp) (hr : Room k X.A) (hg : Gl X nm) (hm : X.mg nm = some (.ref f)) (hk : PySem.W.keepIn X.K (.ref f) = true) (hb : KBn X.K fd ps n1 ks g gV)
    (ha : PA X (x :: es) t) (hkw : PK X kws tkw) (hall : (backToKw pos (keywordEach kws X.env)).all (·.1.isSome) = true) (hks : (backToKw pos (keywordEach kws X.env)).filterMap (·.1) = ks) (hdb : (nm == ("__debug__" : Str)) = false)
    (he : starEach (x :: es) X.env = (false, eval x X.env) :: starEach es X.env) (hpl : ((backTo pos (starEach (x :: es) X.env)).any (·.1) || (backToKw pos (keywordEach kws X.env)).any (·.1.isNone)) = false) :
    PE X (.Call (.Name nm p) (x :: es) kws pos) (fun σ H Q => t σ H fun vs H1 => tkw σ H1 fun zs H2 => vs.length = n1 ∧ zs.length = ks.length ∧ sp (gV vs zs) H2 Q (WE W σ)) := by
  refine ⟨fun pins s σ H Q I h => wpAny_Call_Name_kw (ld_glob I hg hm ?_ hdb)⟩
  refine PySem.W.callWith_KW (h₀ := X.base) I.ok.mod.kin hk hall (thn (ha.run pos pins s σ H _ I h) fun us t1 ⟨vs, H1, I1, r1, g1⟩ => thn (hkw.run pos pins t1 σ H1 _ I1 g1) fun ws t2 ⟨zs, H2, I2, r2, l1, l2, g2⟩ => ⟨I2.kIn, ?_⟩) hpl he
  rw [hks]
  have rr := hb.rel r1 r2
  refine wpAny_call (codeAny_mono (G.run X.A X.stack t2 H2 ⟨us, ks.zip ws⟩ (g us ws) (gV vs zs) Q (WE W σ) hr I2.env0 (hb.to t2 us ws I2.kIn (r1.length.symm.trans l1) (r2.length.symm.trans l2)) rr g2) fun res t3 hq => ?_)
  match res, hq with
  | .error er, hq => exact passAt tk σ pins H2 t2 er t3 I2 hq
  | .ok (.ret u), hq => exact I2.after hq
  | .ok .next, hq => exact hq.elim
  | .ok .brk, hq => exact hq.elim
  | .ok .cont, hq => exact hq.elim
end
end Jd

/-! text J23 -/
set_option Elab.async false
set_option linter.all false
set_option maxRecDepth 100000
set_option maxHeartbeats 4000000
namespace Jd
open PySem PySem.W L2 PySem.Spec PyProof.Rows
/-! ### several clauses `except C as n`, all with the same name -/
abbrev Cl1 := Value × (Addr → Value → Option Addr → TS)
/-- behind a suite: slot i is forgotten -/
def Ends.un (D : Ends) (i : Nat) : Ends := { nx := fun τ G => D.nx (τ.set i none) G, rt := D.rt, bk := fun τ G => D.bk (τ.set i none) G, ct := fun τ G => D.ct (τ.set i none) G }
def wishes (K : PySem.W.Frag) (i : Nat) (Wo : WX) (D : Ends) : List Cl1 → WX
  | [] => Wo
  | c :: l => fun cls d τ G => ∃ t, PySem.W.exmOne K cls c.1 = some t ∧ (t = true → ∀ z, G z = none → c.2 z cls d (Ends.un D i) (τ.set i (some (.ref z))) G) ∧ (t = false → wishes K i Wo D l cls d τ G)
inductive Clauses (X : Cx) (n : Str) : List ExceptHandler → List Cl1 → Prop
  | nil : Clauses X n [] []
  | cons {x : Str} {c : Value} {ts : Addr → Value → Option Addr → TS} {b0 : Stmt} {bs : List Stmt} {p1 p2 : Pos} {hs : List ExceptHandler} {l : List Cl1} (hc : Names X x c)
      (hb : ∀ (z : Addr) (oz : Obj) (cls : Value) (d : Option Addr) (pn : List (Addr × Obj)), Zc cls d oz → (∃ us, oz.data = .fields us) → PSs (X.suite z ((z, oz) :: pn)) (b0 :: bs) (ts z cls d)) (hr : Clauses X n hs l) :
      Clauses X n (.ExceptHandler (some (.Name x p1)) (some n) (b0 :: bs) p2 :: hs) ((c, ts) :: l)
section
variable {X : Cx} {n : Str} {i : Nat} {body : List Stmt} {h0 : ExceptHandler} {hs : List ExceptHandler} {l : List Cl1} {pos : Pos} {tb : WX → TS} {Wo : WX}
theorem ps_tryAsMany (st : X.stack = X.env :: X.outer) (fr : X.env.frame = some X.env.locals) (nd : X.N.Nodup) (at_ : X.N[i]? = some n) (loc : X.env.kindOf n = some .local) (tk : Takes X Wo)
    (hb : ∀ (W : WX) (pn : List (Addr × Obj)) (xe : Value → Shared → Prop), Takes (X.tr pn xe) W → PassesOwn (model X.prog X.w) X.A X.env xe → PSs (X.tr pn xe) body (tb W)) (hh : Clauses X n (h0 :: hs) l) :
    PS X (.Try body (h0 :: hs) [] [] pos) (fun D σ H => tb (wishes X.K i Wo D l) D σ H) := by
  refine ⟨fun pins s σ H D I hw => wpAny_Try_except ?_⟩
  have hok := I.ok
  have hA : X.A.frames = some (X.env :: X.outer) := by rw [hok.frames, st]
  refine wpAny_mono ((hb (wishes X.K i Wo D l) (X.pn ++ pins) (fun er t1 => wpAny (model X.prog X.w) X.A (noteFrame er X.env) (fun _ t2 => wpAny (model X.prog X.w) X.A (setFlight er none) (fun _ t3 =>
    wpAny (model X.prog X.w) X.A (handleBy er X.env (h0 :: hs)) (SP X pins D) X.xe t3) X.xe t2) X.xe t1) (fun u t air => ?_) PassesOwn.looking).run [] s σ H D (I.toTry _) hw) (fun fl t1 done => ?_) (fun er t1 z => z)
  · obtain ⟨z, B, sJ, pins2, τ, G, cls, d, rfl, J1, ground, upS, sky, nz, sameOs, allB, wz⟩ := air
    have J : Inv X pins τ G sJ := J1.ofTry hok
    have sky2 : Sky B (X.env :: X.outer) z (Zc cls d) X.env.locals t.heap := by rw [← st]; exact sky
    show wpAny (model X.prog X.w) X.A (noteFrame (.ref z) X.env) _ _ _
    refine Sky.land Zc.steady hA fr sky2 fun g3 f3 u3 => ?_
    have J3 : Inv X pins τ G { t with heap := g3 } := J.landed ground f3.1 (upS.trans u3) sameOs allB
    obtain ⟨oz3, us3, ez3, zz3, dz3⟩ := f3.there
    have apart : z ∉ frs (X.env :: X.outer) := fun hm => by
      obtain ⟨_, o2, e2, hnf⟩ := f3.2.2.1.mem hm
      rw [ez3] at e2
      cases e2
      exact hnf _ dz3
    have notL : z ≠ X.env.locals := fun q => apart (List.mem_filterMap.mpr ⟨X.env, List.mem_cons_self, by rw [fr, q]⟩)
    have notF : z ∉ X.fs := fun hm => by
      obtain ⟨ev, hev, q⟩ := List.mem_filterMap.mp hm
      exact apart (List.mem_filterMap.mpr ⟨ev, List.mem_cons_of_mem _ hev, q⟩)
    have S3 := J3.suite ez3 dz3 nz notL notF
    have walk : ∀ {hs1 : List ExceptHandler} {l1 : List Cl1}, Clauses X n hs1 l1 → wishes X.K i Wo D l1 cls d τ G → wpAny (model X.prog X.w) X.A (handleBy (.ref z) X.env hs1) (SP X pins D) X.xe { t with heap := g3 } := by
      intro hs1 l1 hk
      induction hk with
      | nil =>
        intro wz
        refine wpAny_handleBy_nil ?_
        obtain ⟨_, _, _, oz, us, tb, otb, _, e1, _, e2, e3, _⟩ := id f3
        unfold PySem.passOn
        refine wpAny_bind (wpAny_field e1 e2 e3 ?_)
        rw [if_neg (by simp : ¬ ((Value.ref tb == Value.none) = true))]
        have out : wpAny (model X.prog X.w) X.A (setFlight (.ref z) X.env.frame) (fun _ t4 => wpAny (model X.prog X.w) X.A (throw (.ref z) : Sem Flow) (SP X pins D) X.xe t4) X.xe { t with heap := g3 } := by
          rw [fr]
          exact HandSPX.setFlight_upZ f3 fun g4 hg4 u4 => wpAny_throw (tk _ _ ⟨z, B, sJ, pins, τ, G, cls, d, rfl, J, ground, (upS.trans u3).trans u4, .inr (.inr (by rw [st]; exact hg4)), nz, sameOs, allB, wz⟩)
        first
          | exact wpAny_bind (wpAny_pure (wpAny_bind out))
          | exact wpAny_bind out
      | @cons x c ts b0 bs p1 p2 hs2 l2 hc hsu _ ih =>
        intro wz
        obtain ⟨tr, q1, yes, no⟩ := wz
        refine wpAny_handleBy_cons (codeAny_handlers_test ?_) (by intro q; cases q)
        have lk : PySem.W.Looks (model X.prog X.w) g3 (typeOf (.ref z)) cls := fun A Q E s0 k1 k2 => wpAny_typeOf_ref (k1 _ _ ez3) (by rw [zz3.1]; exact k2)
        have lm := PySem.W.exm_one (M := model X.prog X.w) (J3.kIn) lk q1
        have name : ∀ {Q : Value → Shared → Prop} {E : Value → Shared → Prop}, Q c { t with heap := g3 } → wpAny (model X.prog X.w) (X.A.mark (some (.ref z))) (eval (.Name x p1) X.env) Q E { t with heap := g3 } := fun {Q E} k1 => by
          rcases hc with ⟨g1, g2, g | ⟨g, gv, gn⟩⟩
          · exact ld_glob (X := X.suite z ((z, oz3) :: (X.pn ++ pins))) S3 g1 g k1 g2
          · exact ld_blt (X := X.suite z ((z, oz3) :: (X.pn ++ pins))) S3 g1 g gv k1 gn g2
        refine name (lm.here ?_)
        cases tr with
        | true =>
          refine codeAny_handlers_suite_as (HandSPX.lands_againZ f3 fun g4 f4 u4 => ?_)
          have J4 : Inv X pins τ G { t with heap := g4 } := J.landed ground f4.1 ((upS.trans u3).trans u4) sameOs allB
          obtain ⟨oz4, us4, ez4, zz4, dz4⟩ := f4.there
          refine store_ok (X := X.suite z ((z, oz4) :: (X.pn ++ pins))) (v := .ref z) (J4.suite ez4 dz4 nz notL notF) nd at_ (.inl loc) rfl (fun t5 S5 => ?_) (.inr loc)
          refine wpAny_mono ((hsu z oz4 cls d (X.pn ++ pins) zz4 ⟨_, dz4⟩).run [] t5 _ G _ S5 (yes rfl z nz)) (fun fl t6 done => ?_) (fun _ _ q => False.elim q)
          have back : ∀ {τ6 : L2.St} {G6 : Hp} {Q : Shared → Prop}, Inv (X.suite z ((z, oz4) :: (X.pn ++ pins))) [] τ6 G6 t6 → (∀ t7, Inv X pins (τ6.set i none) G6 t7 → Q t7) →
              wpAny (model X.prog X.w) X.A (do bindName X.env n .none; unbindBehindTheSuite X.env n p2) (fun _ t7 => Q t7) X.xe t6 := fun {τ6 G6 Q} S6 k1 => gone_ok (S6.unsuite hok) nd at_ loc k1
          match fl, done with
          | .next, ⟨τ6, G6, S6, k6⟩ => exact back S6 fun t7 J7 => ⟨_, _, J7, k6⟩
          | .brk, ⟨τ6, G6, S6, k6⟩ => exact back S6 fun t7 J7 => ⟨_, _, J7, k6⟩
          | .cont, ⟨τ6, G6, S6, k6⟩ => exact back S6 fun t7 J7 => ⟨_, _, J7, k6⟩
          | .ret u, ⟨v6, τ6, G6, S6, r6, k6⟩ => exact back S6 fun t7 J7 => ⟨_, _, _, J7, r6, k6⟩
        | false =>
          show wpAny _ X.A (handleBy (.ref z) X.env hs2) _ _ _
          exact ih (no rfl)
    exact walk hh wz
  · match fl, done with
    | .next, ⟨τ1, G1, J1, k1⟩ => exact wpAny_execs_nil ⟨τ1, G1, J1.ofTry hok, k1⟩
    | .brk, ⟨τ1, G1, J1, k1⟩ => exact ⟨τ1, G1, J1.ofTry hok, k1⟩
    | .cont, ⟨τ1, G1, J1, k1⟩ => exact ⟨τ1, G1, J1.ofTry hok, k1⟩
    | .ret u, ⟨v1, τ1, G1, J1, r1, k1⟩ => exact ⟨v1, τ1, G1, J1.ofTry hok, r1, k1⟩
end
theorem takesNo {X : Cx} : Takes X (fun _ _ _ _ => False) := fun _ _ z => by
  obtain ⟨_, _, _, _, _, _, _, _, _, _, _, _, _, _, _, _, q⟩ := z
  exact q.elim
end Jd

/-! text J24 -/
set_option Elab.async false
set_option linter.all false
set_option maxRecDepth 100000
set_option maxHeartbeats 4000000
namespace Jd
open PySem PySem.W L2 PySem.Spec PyProof.Rows
variable {X : Cx} {e : En} {ss ss' ss1 ss2 ss3 s0 : List Slot} {σ : L2.St} {F F' H H' : Hp} {a b c x y it elt tg : Expr} {pos p q : Pos} {m n o : Mp} {i j : Int} {ms : List Mp} {nm : Str} {st : Stmt} {rest body : List Stmt} {r : Res}
/-! ### repr -/
/-- repr of all such values is z -/
def Shown (m : Mp) (z : Str) : Prop := ∀ (X : Cx) (pins : List (Addr × Obj)) (σ : L2.St) (F H : Hp) (s : Shared) (v : V) (u : Value) (E : Value → Shared → Prop) (Q : Value → Shared → Prop), X.A.guards = some [] → X.A.units + 20 < cLine → Inv X pins σ H s → Ex F H → m.p F v → RelV v u →
  (∀ u' s', RelV (.str z) u' → Inv X pins σ H s' → Q u' s') → wpAny (model X.prog X.w) X.A (call (.builtin "repr") [u]) Q E s
theorem shown_none : Shown mNone "None" := fun X pins σ F H s v u E Q _ _ I _ hv r k => by
  cases hv
  cases r
  exact PySem.P.repr_of_none (k _ _ ⟨_, rfl⟩ (I.tok _))
theorem shown_int (hi : i.natAbs.log2 < 1920) : Shown (mInt i) (toString i) := fun X pins σ F H s v u E Q _ _ I _ hv r k => by
  cases hv
  obtain ⟨t, rfl⟩ := r
  exact PySem.P.repr_of_int hi (k _ _ ⟨_, rfl⟩ (I.tok _))
theorem shown_str {z : Str} (hz : (reprText z).length ≤ sizeLine) : Shown (mStr z) (reprText z) := fun X pins σ F H s v u E Q _ _ I _ hv r k => by
  cases hv
  obtain ⟨t, rfl⟩ := r
  exact PySem.P.repr_of_str (k _ _ ⟨_, rfl⟩ (I.tok _)) hz
/-- all such values are this datum -/
def DatM (m : Mp) (d : PyData) : Prop := ∀ (K : PySem.W.Frag) (F H : Hp) (v : V), Ex F H → m.p F v → Dp K H v d
theorem datM_none : DatM mNone .none := fun _ _ _ _ _ h => by cases h; exact .non
theorem datM_int : DatM (mInt i) (.int i) := fun _ _ _ _ _ h => by cases h; exact .int i
theorem datM_bool {t : Bool} : DatM (mBool t) (.bool t) := fun _ _ _ _ _ h => by cases h; exact .bl t
theorem datM_str {z : Str} : DatM (mStr z) (.str z) := fun _ _ _ _ _ h => by cases h; exact .str z
inductive DatMs : List Mp → List PyData → Prop where
  | nil : DatMs [] []
  | cons {m : Mp} {ms : List Mp} {d : PyData} {ds : List PyData} (h : DatM m d) (r : DatMs ms ds) : DatMs (m :: ms) (d :: ds)
theorem DatMs.all {K : PySem.W.Frag} (xx : Ex F H) : ∀ {ms : List Mp} {ds : List PyData} {vs : List V}, DatMs ms ds → allP F ms vs → DpAll K H vs ds
  | [], [], [], .nil, _ => .nil
  | _ :: _, _ :: _, _ :: _, .cons h r, hA => .cons (h K F H _ xx hA.1) (DatMs.all xx r hA.2)
  | [], _, _ :: _, _, hA => hA.elim
  | _ :: _, _, [], _, hA => hA.elim
theorem datMs_rep {d : PyData} (h : DatM m d) : ∀ k : Nat, DatMs (List.replicate k m) (List.replicate k d)
  | 0 => .nil
  | k + 1 => .cons h (datMs_rep h k)
theorem shown_L {ds : List PyData} (h : DatMs ms ds) (hs : (PyData.list ds).showable = true) (hd : (PyData.list ds).hasDict = false) (hu : (PyData.list ds).depth ≤ 8) (hz : (PyData.list ds).shown.length ≤ sizeLine) : Shown (mL ms) (PyData.list ds).shown := fun X pins σ F H s v u E Q hG hU I xx hv rv k => by
  obtain ⟨ad, vs, rfl, hR, hA⟩ := hv
  obtain rfl : u = Value.ref ad := rv
  have D : Dp X.K H (.ref ad) (.list ds) := .lst (.inl (Rd.up xx hR)) (h.all xx hA)
  obtain ⟨as, R⟩ := D.reads I _ _ _ rfl
  exact repr_of_reads' R hs (fun z => by rw [hd] at z; cases z) hG (by omega) (fun _ _ z => z) (fun h' u' tk kk => k _ _ ⟨_, rfl⟩ (I.kept kk)) hz
def mD0 : Mp := ⟨fun F v => ∃ ad, v = .ref ad ∧ F ad = some (.dK []), fun xx ⟨ad, h1, h2⟩ => ⟨ad, h1, xx _ _ h2⟩⟩
theorem je_fzD (h : JO X e x ss (oD []) ss') : JE X e x ss mD0 ss' := PE_mono h fun σ H Q ⟨F, I, k⟩ => ⟨F, I, fun a F' H' e1 I1 O => by
  obtain ⟨F2, e2, I2, hn⟩ := O.freeze (n := mD0) I1 fun F a u h1 h2 => ⟨a, rfl, by rw [h1, h2]; rfl⟩
  exact k _ F2 H' (e1.trans e2) I2 hn⟩
theorem shown_D0 : Shown mD0 (PyData.dict []).shown := fun X pins σ F H s v u E Q hG hU I xx hv rv k => by
  obtain ⟨ad, rfl, hF⟩ := hv
  obtain rfl : u = Value.ref ad := rv
  obtain ⟨_, hsys, vs, hkv, ob⟩ := I.hok ad _ (xx _ _ hF)
  cases hkv
  obtain ⟨_, es, _, e1, e2, e3, _, e5, _⟩ := ob
  have e6 : es.toList = [] := by
    generalize es.toList = l at e5
    cases e5
    rfl
  have R : Reads s.heap (.ref ad) (.dict []) (ad :: [] ++ []) := Reads.dict e1 e2.1 e3 (by rw [e6]; exact .nil) (by rw [e6]; exact .nil)
  exact repr_of_reads' R (by decide +kernel) (fun _ z => by
    have : sysModules = ad := by simpa using z
    rw [this] at hsys
    simp at hsys) hG (by show _ + (1 + 1) < _; omega) (fun _ _ z => z) (fun h' u' tk kk => k _ _ ⟨_, rfl⟩ (I.kept kk)) (by decide +kernel)
theorem tyM_D0 : TyM mD0 "dict" := fun K F H v xx h => by
  obtain ⟨ad, rfl, h⟩ := h
  exact .base (.dK (xx _ _ h))
theorem je_repr {z : Str} (hz : Shown m z) (hG : X.A.guards = some []) (hu : X.A.units + 20 < cLine) (ha : JE X e a ss m ss1) (hm : X.mg "repr" = none) (hg : Gl X "repr" := by rfl) (hs : starEach [a] X.env = (false, eval a X.env) :: starEach [] X.env := by rfl) (hpl : (backTo pos (starEach [] X.env)).any (·.1) = false := by rfl) :
    JE X e (.Call (.Name "repr" p) [a] [] pos) ss (mStr z) ss1 := by
  have C : CallR X (.builtin "repr") (fun xs H Q => ∃ v F, xs = [v] ∧ Ex F H ∧ m.p F v ∧ Q (.str z) H) := by
    intro pins s σ H xs us Q I rr ⟨v, F, hx, xx, hv, hq⟩
    subst hx
    match us, rr with
    | [u], .cons ru .nil => exact hz X pins σ F H s v u _ _ hG hu I xx hv ru fun u' s' r' I' => ⟨.str z, H, I', r', hq⟩
  exact PE_mono (pe_callB C hg hm (by decide +kernel) (pa_cons ha pa_nil hs) (by decide) (by decide) hs hpl) fun σ H Q ⟨F, I, k⟩ => ⟨F, I, fun v F1 H1 x1 I1 hv => ⟨v, F1, rfl, I1.sub, hv, k _ F1 H1 x1 I1 rfl⟩⟩
end Jd

/-! text D2 -/
set_option Elab.async false
set_option linter.all false
set_option maxRecDepth 100000
set_option maxHeartbeats 4000000
namespace Afw
open PySem L2 PySem.Spec PyProof.Rows Jd
variable {P : Program} {w : World} {K : PySem.W.Frag} {mg : Str → Option Value} {base : Heap}
abbrev H_is_count (P : Program) (w : World) (K : PySem.W.Frag) (mg : Str → Option Value) (base : Heap) : Prop := Has P w K mg base 2 "is_count" ["thing", "low", "high"] (spP (fun _ : Int × Int × Int => True) (fun p => [mInt p.1, mInt p.2.1, mInt p.2.2]) fun p => mBool (decide (p.2.1 ≤ p.1) && decide (p.1 ≤ p.2.2)))
theorem ok_is_count (T : Tx K mg) (G : H_is_integer P w K mg base) : H_is_count P w K mg base := by
  obtain ⟨fd, D, B⟩ := T.D_is_count
  refine ⟨fd, fn_pure D sc_is_count (fun _ => rfl) (by decide) ?_, B, T.g_is_count, D.kp⟩
  rintro ⟨i, l, h⟩ _ cdv A outer s H E e hr
  exact ⟨_, _, js_one (js_ret (je_and (je_callH (i := (mInt i, true)) G hr (by decide) (ja_cons (jv 0) ja_nil) isInt_int) fun _ => je_one
    (je_chain (g := fun i j => decide (i ≤ j)) (g' := fun i j => decide (i ≤ j)) op_le op_le (jv 1) (jv 0) (jv 2)))), .of (by rfl)⟩
abbrev H_is_listed (P : Program) (w : World) (K : PySem.W.Frag) (mg : Str → Option Value) (base : Heap) : Prop := Has P w K mg base 1 "is_listed" ["thing"] (spP (fun p : Mp × Bool => IsSeq p.1 p.2) (fun p => [p.1]) fun p => mBool p.2)
theorem ok_is_listed (T : Tx K mg) : H_is_listed P w K mg base := by
  obtain ⟨fd, D, B⟩ := T.D_is_listed
  refine ⟨fd, fn_pure D sc_is_listed (fun _ => rfl) (by decide) ?_, B, T.g_is_listed, D.kp⟩
  rintro ⟨m, b⟩ ⟨t, r1, r2, ht, h1, h2, rfl⟩ cdv A outer s H E e hr
  exact ⟨_, _, js_one (js_ret (je_isi2 (jv 0) ht h1 h2 T.b_isinstance T.b_tuple (by decide +kernel) T.b_list (by decide +kernel))), .rt⟩
/-- tuples in the place of lists -/
inductive Deep : Nat → Mp → Mp → Prop where
  | leaf {n : Nat} {m : Mp} (h : IsSeq m false) : Deep n m m
  | lst {n : Nat} {ms : List Mp} (f : Nat → Mp) (hl : ms.length ≤ 100000) (h : ∀ i, i < ms.length → Deep n (ms.getD i mTrue) (f i)) : Deep (n + 1) (mL ms) (mT ((List.range ms.length).map f))
  | tup {n : Nat} {ms : List Mp} (f : Nat → Mp) (hl : ms.length ≤ 100000) (h : ∀ i, i < ms.length → Deep n (ms.getD i mTrue) (f i)) : Deep (n + 1) (mT ms) (mT ((List.range ms.length).map f))
abbrev H_deep (P : Program) (w : World) (K : PySem.W.Frag) (mg : Str → Option Value) (base : Heap) (n : Nat) : Prop := Has P w K mg base (n + 2) "deep" ["thing"] (spP (fun p : Mp × Mp => Deep n p.1 p.2) (fun p => [p.1]) fun p => p.2)
theorem ok_deep (T : Tx K mg) (G : H_is_listed P w K mg base) : ∀ n, H_deep P w K mg base n := by
  intro n
  induction n with
  | zero =>
    obtain ⟨fd, D, B⟩ := T.D_deep
    refine ⟨fd, fn_pure D sc_deep (fun _ => rfl) (by decide) ?_, B, T.g_deep, D.kp⟩
    rintro ⟨m, m'⟩ h cdv A outer s H E e hr
    cases h with
    | leaf hm =>
      exact ⟨_, _, js_cons (js_if (jt_val (je_callH (i := (m, false)) G hr (by omega) (ja_cons (jv 0) ja_nil) hm)) (fun z => by cases z) fun _ => js_nil) (js_one (js_ret (jv 0))), .rt⟩
  | succ n ih =>
    obtain ⟨fd, D, B⟩ := T.D_deep
    refine ⟨fd, fn_pure D sc_deep (fun _ => rfl) (by decide) ?_, B, T.g_deep, D.kp⟩
    rintro ⟨m, m'⟩ h cdv A outer s H E e hr
    cases h with
    | leaf hm =>
      exact ⟨_, _, js_cons (js_if (jt_val (je_callH (i := (m, false)) G hr (by omega) (ja_cons (jv 0) ja_nil) hm)) (fun z => by cases z) fun _ => js_nil) (js_one (js_ret (jv 0))), .rt⟩
    | lst f hl hf =>
      rename_i ms
      refine ⟨_, _, js_rt (js_if (t := true) (jt_val (je_callH (i := (mL ms, true)) G hr (by omega) (ja_cons (jv 0) ja_nil) isSeq_L)) (fun _ => js_one (js_ret (je_tupOf (jp_of (je_fz (jo_lc1 (jx := 1) f (ji_list (jv 0)) (fun s h => .inl (Option.some.inj h).symm) ?_ hl sc_deep.nd))) T.b_tuple))) fun z => by cases z), .rt⟩
      exact fun i hi k s H C cl fp => je_callH (i := (ms.getD i mTrue, f i)) ih hr (by omega) (ja_cons (jv 1) ja_nil) (hf i hi)
    | tup f hl hf =>
      rename_i ms
      refine ⟨_, _, js_rt (js_if (t := true) (jt_val (je_callH (i := (mT ms, true)) G hr (by omega) (ja_cons (jv 0) ja_nil) isSeq_T)) (fun _ => js_one (js_ret (je_tupOf (jp_of (je_fz (jo_lc1 (jx := 1) f (ji_tup (jv 0)) (fun s h => .inl (Option.some.inj h).symm) ?_ hl sc_deep.nd))) T.b_tuple))) fun z => by cases z), .rt⟩
      exact fun i hi k s H C cl fp => je_callH (i := (ms.getD i mTrue, f i)) ih hr (by omega) (ja_cons (jv 1) ja_nil) (hf i hi)
end Afw

/-! text D3 -/
set_option Elab.async false
set_option linter.all false
set_option maxRecDepth 100000
set_option maxHeartbeats 4000000
namespace Afw
open PySem L2 PySem.Spec PyProof.Rows Jd
variable {P : Program} {w : World} {K : PySem.W.Frag} {mg : Str → Option Value} {base : Heap}
theorem isSeq_sq {m : Mp} {ms : List Mp} (h : SeqOf m ms) : IsSeq m true := by
  rcases h with h | h
  · subst h; exact isSeq_L
  · subst h; exact isSeq_T
/-! ### asks -/
abbrev chr1 (z : Str) (i : Nat) : Str := ⟨#[z.cps.getD i 0]⟩
def askNo (z : Str) (i : Nat) : Int := Txt.find "abcdefgh" (chr1 z i)
def lastOf (z : Str) : Nat → Int
  | 0 => -1
  | i + 1 => askNo z i
def askOk (z : Str) : Bool := decide (1 ≤ z.cps.size) && decide (z.cps.size ≤ 4) && (List.range z.cps.size).all fun i => decide (lastOf z i < askNo z i)
theorem askOk_size {z : Str} (h : askOk z = true) : 1 ≤ z.length ∧ z.length ≤ 4 := by
  unfold askOk at h
  rw [Bool.and_eq_true, Bool.and_eq_true, decide_eq_true_eq, decide_eq_true_eq] at h
  exact h.1
theorem askOk_at {z : Str} (h : askOk z = true) {i : Nat} (hi : i < z.cps.size) : lastOf z i < askNo z i := by
  unfold askOk at h
  rw [Bool.and_eq_true] at h
  exact of_decide_eq_true (all_range.mp h.2 i hi)
abbrev H_is_asks (P : Program) (w : World) (K : PySem.W.Frag) (mg : Str → Option Value) (base : Heap) : Prop := Has P w K mg base 1 "is_asks" ["thing"] (spP (fun z : Str => askOk z = true) (fun z => [mStr z]) fun _ => mBool true)
theorem ok_is_asks (T : Tx K mg) : H_is_asks P w K mg base := by
  obtain ⟨fd, D, B⟩ := T.D_is_asks
  refine ⟨fd, fn_pure D sc_is_asks (fun _ => rfl) (by decide) ?_, B, T.g_is_asks, D.kp⟩
  rintro z hz cdv A outer s H E e hr
  obtain ⟨h1, h4⟩ := askOk_size hz
  refine ⟨_, _, js_cons (js_if (jt_w (jw_or (jt_not (jt_val (je_isi (T := "str") (r := true) (jv 0) tyM_str (by decide +kernel) T.b_isinstance T.b_str (by decide +kernel)))) fun _ => jw_one (jt_not (jt_chain (g := fun i j => decide (i ≤ j)) (g' := fun i j => decide (i ≤ j)) op_le op_le (i := 1) (k := 4) je_int (je_lenS (jv 0) (by omega) T.b_len) je_int)))) (fun y => ?_) fun _ => js_nil)
    (js_cons (jset 1 (m := mInt (-1)) (je_neg je_int) sc_is_asks.nd)
    (js_cons (js_forN (fun i => [.val (mStr z), .val (mInt (lastOf z i)), .any, .any]) (ji_str (jv 0)) (by repeat (first | exact Le.nil | refine Le.same ?_ | refine Le.drop ?_)) (fun i hi => ⟨_, _, jgn 2 sc_is_asks.nd,
      js_cons (jset 3 (je_find (je_globS T.v_LETTERS) (jv 2)) sc_is_asks.nd) (js_cons (js_if (jt_le (jv 3) (jv 1)) (fun z => ?_) fun _ => js_nil) (js_one (jset 1 (jv 3) sc_is_asks.nd))), (by repeat (first | exact Le.nil | refine Le.same ?_ | refine Le.drop ?_))⟩) PassesOwn.never)
    (js_one (js_ret je_bool)))), .rt⟩
  · rw [decide_eq_true (show (1 : Int) ≤ (z.length : Int) by omega), decide_eq_true (show (z.length : Int) ≤ 4 by omega)] at y
    cases y
  · exact absurd (of_decide_eq_true z) (Int.not_le.mpr (askOk_at hz hi))
abbrev H_check_asks (P : Program) (w : World) (K : PySem.W.Frag) (mg : Str → Option Value) (base : Heap) : Prop := Has P w K mg base 2 "check_asks" ["thing"] (spP (fun z : Str => askOk z = true) (fun z => [mStr z]) fun _ => mNone)
theorem ok_check_asks (T : Tx K mg) (G : H_is_asks P w K mg base) : H_check_asks P w K mg base := by
  obtain ⟨fd, D, B⟩ := T.D_check_asks
  refine ⟨fd, fn_pure D sc_check_asks (fun _ => rfl) (by decide) ?_, B, T.g_check_asks, D.kp⟩
  rintro z hz cdv A outer s H E e hr
  exact ⟨_, _, js_one (js_if (jt_not (jt_val (je_callH (i := z) G hr (by omega) (ja1 (jv 0)) hz))) (fun z => by cases z) fun _ => js_nil), .nx rfl⟩
/-! ### rows -/
inductive RowR (asks : Str) : Mp → Bool → Prop where
  | no {m : Mp} {t : String} (ht : TyM m t) (hk : kitB t "str" = some false) : RowR asks m false
  | str (z : Str) (hl : z.length ≤ 100000) : RowR asks (mStr z) (decide (z.length ≤ 2000) && (List.range z.cps.size).all fun i => decide (z.cps.getD i 0 ∈ asks.cps.toList))
abbrev H_row_over (P : Program) (w : World) (K : PySem.W.Frag) (mg : Str → Option Value) (base : Heap) : Prop := Has P w K mg base 1 "row_over" ["asks", "thing"] (spP (fun p : Str × Mp × Bool => RowR p.1 p.2.1 p.2.2) (fun p => [mStr p.1, p.2.1]) fun p => mBool p.2.2)
theorem ok_row_over (T : Tx K mg) : H_row_over P w K mg base := by
  obtain ⟨fd, D, B⟩ := T.D_row_over
  refine ⟨fd, fn_pure D sc_row_over (fun _ => rfl) (by decide) ?_, B, T.g_row_over, D.kp⟩
  rintro ⟨asks, m, b⟩ h cdv A outer s H E e hr
  change RowR asks m b at h
  cases h with
  | no ht hk => exact ⟨_, _, js_rt (js_if (t := true || true) (jt_w (jw_or (u := true) (jt_not (jt_val (je_isi (jv 1) ht hk T.b_isinstance T.b_str (by decide +kernel)))) fun z => by cases z)) (fun _ => js_one (js_ret je_bool)) fun z => by cases z), .rt⟩
  | str z hl =>
    by_cases hz : z.length ≤ 2000
    · refine ⟨_, _, js_cons (js_if (jt_w (jw_or (jt_not (jt_val (je_isi (T := "str") (r := true) (jv 1) tyM_str (by decide +kernel) T.b_isinstance T.b_str (by decide +kernel)))) fun _ => jw_one (jt_gt (je_lenS (jv 1) hl T.b_len) (je_globI T.v_LONGEST)))) (fun z => ?_) fun _ => js_nil)
        (js_scan 2 (s0 := [.val (mStr asks), .val (mStr z), .any]) (ji_str (jv 1)) (by repeat (first | exact Le.nil | refine Le.same ?_ | refine Le.drop ?_)) sc_row_over.nd (fun i hi => jt_ninC (jv 2) (jv 0)) PassesOwn.never), .of ?_⟩
      · have := of_decide_eq_true (show decide _ = true from z)
        omega
      · show mBool _ = mBool _
        rw [decide_eq_true hz]
        rfl
    · refine ⟨_, _, js_rt (js_if (jt_w (jw_or (jt_not (jt_val (je_isi (T := "str") (r := true) (jv 1) tyM_str (by decide +kernel) T.b_isinstance T.b_str (by decide +kernel)))) fun _ => jw_one (jt_gt (je_lenS (jv 1) hl T.b_len) (je_globI T.v_LONGEST)))) (fun _ => js_one (js_ret je_bool)) fun y => ?_), .of ?_⟩
      · have := of_decide_eq_false (show decide _ = false from y)
        omega
      · show mBool _ = mBool _
        rw [decide_eq_false hz]
        rfl
end Afw

/-! text D4 -/
set_option Elab.async false
set_option linter.all false
set_option maxRecDepth 100000
set_option maxHeartbeats 4000000
namespace Jd
open PySem L2 PySem.Spec PyProof.Rows
/-- a class whose __init__ keeps its promise -/
def HasI (P : Program) (w : World) (K : PySem.W.Frag) (mg : Str → Option Value) (base : Heap) (k : Nat) (C : Str) (ps : List Str) (sp : Sp) : Prop :=
  ∃ fd, FnOk P w K mg base CX0 k (He.ma K (He.ga K C) "__init__") fd ps sp ∧ Binds K fd ps [] ∧ Mk K (He.ga K C) (He.ma K (He.ga K C) "__init__") ∧ mg C = some (.ref (He.ga K C))
theorem jt_of {X : Cx} {e : En} {ss ss1 : List Slot} {x : Expr} {t t' : Bool} (h : JT X e x ss t ss1) (ht : t = t') : JT X e x ss t' ss1 := ht ▸ h
theorem je_of {X : Cx} {e : En} {ss ss1 : List Slot} {x : Expr} {t t' : Mp} (h : JE X e x ss t ss1) (ht : t = t') : JE X e x ss t' ss1 := ht ▸ h
section
variable {X : Cx} {e : En} {ss ss1 : List Slot} {x : Expr} {pos p : Pos} {ms : List Mp} {k k' : Nat} {ps : List Str} {ι : Type} {pre : ι → Prop} {ins : ι → List Mp} {b1 : ι → Mo} {nm : Str} {es : List Expr}
theorem jo_makeH {i : ι} (G : HasI X.prog X.w X.K X.mg X.base k nm ps (spB pre (fun _ => oI (He.ga X.K nm) []) b1 ins fun _ => mNone)) (hr : Room k' X.A) (hk : k + 1 ≤ k') (ha : JA X e (x :: es) ss ms ss1) (hp : pre i) {mo : Mo} (hi : ins i = ms := by rfl) (hm : b1 i = mo := by rfl)
    (hg : Gl X nm := by rfl) (hdb : (nm == ("__debug__" : Str)) = false := by decide) (he : starEach (x :: es) X.env = (false, eval x X.env) :: starEach es X.env := by rfl) (hpl : (backTo pos (starEach es X.env)).any (·.1) = false := by rfl) : JO X e (.Call (.Name nm p) (x :: es) [] pos) ss mo ss1 := by
  obtain ⟨fd, G, B, M, hm'⟩ := G
  subst hm
  exact jo_make (i := i) M G (hr.mono hk) hm' B (by rw [hi]; exact ha) hp hg hdb he hpl
end
end Jd
namespace Afw
open PySem L2 PySem.Spec PyProof.Rows Jd
variable {P : Program} {w : World} {K : PySem.W.Frag} {mg : Str → Option Value} {base : Heap}
/-! ### integers -/
inductive IntsR : Mp → Int → Bool → Prop where
  | no {m : Mp} {many : Int} (h : IsSeq m false) : IntsR m many false
  | seq {m : Mp} {ms : List Mp} {many : Int} (bs : Nat → Bool) (h : SeqOf m ms) (hb : ∀ i, i < ms.length → IsInt (ms.getD i mTrue) (bs i)) : IntsR m many (decide ((ms.length : Int) = many) && (List.range ms.length).all bs)
abbrev H_integers (P : Program) (w : World) (K : PySem.W.Frag) (mg : Str → Option Value) (base : Heap) : Prop := Has P w K mg base 2 "integers" ["thing", "many"] (spP (fun p : Mp × Int × Bool => IntsR p.1 p.2.1 p.2.2) (fun p => [p.1, mInt p.2.1]) fun p => mBool p.2.2)
theorem ok_integers (T : Tx K mg) (G1 : H_is_listed P w K mg base) (G2 : H_is_integer P w K mg base) : H_integers P w K mg base := by
  obtain ⟨fd, D, B⟩ := T.D_integers
  refine ⟨fd, fn_pure D sc_integers (fun _ => rfl) (by decide) ?_, B, T.g_integers, D.kp⟩
  rintro ⟨m, many, b⟩ h cdv A outer s H E e hr
  change IntsR m many b at h
  cases h with
  | no h => exact ⟨_, _, js_rt (js_if (jt_w (jw_or (u := true) (jt_not (jt_val (je_callH (i := (m, false)) G1 hr (by omega) (ja1 (jv 0)) h))) fun z => by cases z)) (fun _ => js_one (js_ret je_bool)) fun z => by cases z), .rt⟩
  | seq bs h hb =>
    rename_i ms
    by_cases hz : (ms.length : Int) = many
    · refine ⟨_, _, js_cons (js_if (jt_w (jw_or (jt_not (jt_val (je_callH (i := (m, true)) G1 hr (by omega) (ja1 (jv 0)) (isSeq_sq h)))) fun _ => jw_one (jt_ne (je_lenSq h (jv 0) T.b_len) (jv 1)))) (fun z => ?_) fun _ => js_nil)
        (js_scan 2 (s0 := [.val m, .val (mInt many), .any]) (ji_sq h (jv 0)) (by repeat (first | exact Le.nil | refine Le.same ?_ | refine Le.drop ?_)) sc_integers.nd (t := bs) (fun i hi => jt_not (jt_val (je_callH (i := (ms.getD i mTrue, bs i)) G2 hr (by omega) (ja1 (jv 2)) (hb i hi)))) PassesOwn.never), .of ?_⟩
      · have z : (!decide _) = true := z
        rw [decide_eq_true hz] at z
        cases z
      · show mBool _ = mBool _
        rw [decide_eq_true hz]
        rfl
    · refine ⟨_, _, js_rt (js_if (jt_w (jw_or (jt_not (jt_val (je_callH (i := (m, true)) G1 hr (by omega) (ja1 (jv 0)) (isSeq_sq h)))) fun _ => jw_one (jt_ne (je_lenSq h (jv 0) T.b_len) (jv 1)))) (fun _ => js_one (js_ret je_bool)) fun z => ?_), .of ?_⟩
      · have z : (!decide _) = false := z
        rw [decide_eq_false hz] at z
        cases z
      · show mBool _ = mBool _
        rw [decide_eq_false hz]
        rfl
theorem ints_of {m : Mp} {ns : List Int} (h : SeqOf m (ns.map mInt)) : IntsR m (ns.length : Int) true := by
  have := IntsR.seq (many := (ns.length : Int)) (fun _ => true) h (fun i hi => by
    rw [List.length_map] at hi
    rw [getD_map (d := 0) hi]
    exact isInt_int)
  rw [List.length_map, decide_eq_true rfl, all_range.mpr (fun _ _ => rfl)] at this
  exact this
/-! ### gates -/
def mOpt : Option Int → Mp
  | none => mNone
  | some i => mInt i
theorem isSeq_opt {o : Option Int} : IsSeq (mOpt o) false := by
  cases o with
  | none => exact isSeq_none
  | some i => exact isSeq_int
structure ItemG (m : Mp) (os : List (Option Int)) (many : Int) (asks : Str) : Prop where
  sq : SeqOf m (os.map mOpt)
  len : (os.length : Int) = asks.length
  at_ : ∀ o ∈ os, ∀ i, o = some i → 0 ≤ i ∧ i < many
abbrev H_is_item_gates (P : Program) (w : World) (K : PySem.W.Frag) (mg : Str → Option Value) (base : Heap) : Prop := Has P w K mg base 3 "is_item_gates" ["thing", "many", "asks"] (spP (fun p : Mp × List (Option Int) × Int × Str => ItemG p.1 p.2.1 p.2.2.1 p.2.2.2 ∧ p.2.2.2.length ≤ 1000) (fun p => [p.1, mInt p.2.2.1, mStr p.2.2.2]) fun p => mBool true)
theorem ok_is_item_gates (T : Tx K mg) (G1 : H_is_listed P w K mg base) (G2 : H_is_count P w K mg base) : H_is_item_gates P w K mg base := by
  obtain ⟨fd, D, B⟩ := T.D_is_item_gates
  refine ⟨fd, fn_pure D sc_is_item_gates (fun _ => rfl) (by decide) ?_, B, T.g_is_item_gates, D.kp⟩
  rintro ⟨m, os, many, asks⟩ ⟨h, hl⟩ cdv A outer s H E e hr
  change ItemG m os many asks at h
  have hl : asks.length ≤ 1000 := hl
  have hle : ((os.map mOpt).length : Int) = asks.length := by rw [List.length_map]; exact h.len
  refine ⟨_, _, js_cons (js_if (jt_w (jw_or (jt_not (jt_val (je_callH (i := (m, true)) G1 hr (by omega) (ja1 (jv 0)) (isSeq_sq h.sq)))) fun _ => jw_one (jt_ne (je_lenSq h.sq (jv 0) T.b_len) (je_lenS (jv 2) (by omega) T.b_len)))) (fun z => ?_) fun _ => js_nil)
    (js_scan 3 (s0 := [.val m, .val (mInt many), .val (mStr asks), .any]) (ji_sq h.sq (jv 0)) (by repeat (first | exact Le.nil | refine Le.same ?_ | refine Le.drop ?_)) sc_is_item_gates.nd (t := fun _ => true) (fun i hi => ?_) PassesOwn.never), .of ?_⟩
  · have z : (!decide _) = true := z
    rw [decide_eq_true hle] at z
    cases z
  · rw [List.length_map] at hi
    rw [getD_map (d := none) hi]
    cases ho : os.getD i none with
    | none => exact jt_w (jw_and (t := false) (u := false) (jt_notN (t := true) (jv 3) nonB_none) fun z => by cases z)
    | some j =>
      have hj := h.at_ (some j) (by
        rw [← ho, List.getD_eq_getElem?_getD, List.getElem?_eq_getElem hi]
        exact List.getElem_mem _) j rfl
      have e1 : (decide ((0 : Int) ≤ j) && decide (j ≤ many - 1)) = true := by
        rw [decide_eq_true hj.1, decide_eq_true (by omega)]; rfl
      refine jt_of (jt_w (jw_and (t := !false) (jt_notN (jv 3) nonB_int) fun _ => jw_one (jt_not (jt_val (je_callH (i := (j, 0, many - 1)) G2 hr (by omega) (ja_cons (jv 3) (ja_cons je_int (ja1 (je_sub (jv 1) je_int)))) trivial))))) ?_
      show (!false && !(decide ((0 : Int) ≤ j) && decide (j ≤ many - 1))) = false
      rw [e1]
      rfl
  · show mBool _ = mBool _
    rw [all_range.mpr (fun _ _ => rfl)]
end Afw

/-! text D5 -/
set_option Elab.async false
set_option linter.all false
set_option maxRecDepth 100000
set_option maxHeartbeats 4000000
namespace Afw
open PySem L2 PySem.Spec PyProof.Rows Jd
variable {P : Program} {w : World} {K : PySem.W.Frag} {mg : Str → Option Value} {base : Heap}
theorem range_getD_map {α : Type} {xs : List α} {d : α} (g : α → Mp) : (List.range xs.length).map (fun i => g (xs.getD i d)) = xs.map g := by
  apply List.ext_getElem
  · simp
  · intro i h1 h2
    rw [List.length_map] at h2
    simp [List.getD_eq_getElem?_getD, List.getElem?_eq_getElem h2]
theorem deepSq {α : Type} (d : α) {n : Nat} {m : Mp} {xs : List α} {f g : α → Mp} (hq : SeqOf m (xs.map f)) (hl : xs.length ≤ 100000) (h : ∀ x ∈ xs, Deep n (f x) (g x)) : Deep (n + 1) m (mT (xs.map g)) := by
  have hl' : (xs.map f).length ≤ 100000 := by rw [List.length_map]; exact hl
  have h' : ∀ i, i < (xs.map f).length → Deep n ((xs.map f).getD i mTrue) (g (xs.getD i d)) := fun i hi => by
    rw [List.length_map] at hi
    rw [getD_map (d := d) hi]
    exact h _ (by rw [List.getD_eq_getElem?_getD, List.getElem?_eq_getElem hi]; exact List.getElem_mem _)
  have e : mT (xs.map g) = mT ((List.range (xs.map f).length).map fun i => g (xs.getD i d)) := by
    rw [List.length_map, range_getD_map]
  rw [e]
  rcases hq with hq | hq
  · subst hq; exact .lst _ hl' h'
  · subst hq; exact .tup _ hl' h'
theorem deepNs {m : Mp} {ns : List Int} (hq : SeqOf m (ns.map mInt)) (hl : ns.length ≤ 100000) {n : Nat} : Deep (n + 1) m (mT (ns.map mInt)) := deepSq 0 hq hl fun _ _ => .leaf isSeq_int
theorem getD_mem {α : Type} {xs : List α} {i : Nat} {d : α} (h : i < xs.length) : xs.getD i d ∈ xs := by
  rw [List.getD_eq_getElem?_getD, List.getElem?_eq_getElem h]
  exact List.getElem_mem _
/-! ### gates -/
abbrev GateM (K : PySem.W.Frag) (asks : Str) (st : Mp) : List (Str × Mp) := [("asks", mStr asks), ("steps", st)]
abbrev gItems (items : List (List (Option Int))) : Mp := mT (items.map fun os => mT (os.map mOpt))
structure GateOk (asks : Str) (items : List (List (Option Int))) : Prop where
  a : askOk asks = true
  l : 1 ≤ items.length ∧ items.length ≤ 50
  i : ∀ os ∈ items, (os.length : Int) = asks.length ∧ ∀ o ∈ os, ∀ i, o = some i → 0 ≤ i ∧ i < items.length
abbrev H_Gate (P : Program) (w : World) (K : PySem.W.Frag) (mg : Str → Option Value) (base : Heap) : Prop := HasI P w K mg base 6 "Gate" ["self", "asks", "steps"]
  (spB (fun p : Str × List (List (Option Int)) => GateOk p.1 p.2) (fun _ => oI (He.ga K "Gate") []) (fun p => oI (He.ga K "Gate") (GateM K p.1 (gItems p.2))) (fun p => [mStr p.1, mL (p.2.map fun os => mL (os.map mOpt))]) fun _ => mNone)
theorem ok_Gate (T : Tx K mg) (G1 : H_check_asks P w K mg base) (G2 : H_is_listed P w K mg base) (G3 : H_is_item_gates P w K mg base) (G4 : H_deep P w K mg base 3) : H_Gate P w K mg base := by
  obtain ⟨fd, D, B⟩ := T.D_Gate_init
  refine ⟨fd, fn_bor D sc_Gate_init (fun _ => rfl) (by decide) ?_, B, T.m_Gate, T.g_Gate⟩
  rintro ⟨asks, items⟩ h cdv A outer s H E e ad hr
  change GateOk asks items at h
  have hs := askOk_size h.a
  refine ⟨_, _, js_cons (js_expr (je_callH (i := asks) G1 hr (by omega) (ja1 (jv 1)) h.a))
    (js_cons (js_if (jt_w (jw_or (jt_not (jt_val (je_callH (i := (mL (items.map fun os => mL (os.map mOpt)), true)) G2 hr (by omega) (ja1 (jv 2)) isSeq_L))) fun _ => jw_one (jt_not (jt_chain (g := fun i j => decide (i ≤ j)) (g' := fun i j => decide (i ≤ j)) op_le op_le (i := 1) je_int (je_lenL (jpv 2) T.b_len) (je_globI T.v_MOST_PLACES))))) (fun y => ?_) fun _ => js_nil)
    (js_cons (js_forN (fun _ => [.bor ad (oI (He.ga K "Gate") []), .val (mStr asks), .val (mL (items.map fun os => mL (os.map mOpt))), .any, .any]) (pi_enumJ (rJ_list (jv 2)) T.b_enumerate) (by repeat (first | exact Le.nil | refine Le.same ?_ | refine Le.drop ?_)) (fun i hi => ⟨_, _, jg_tup (jgs_cons (jgn 3 sc_Gate_init.nd) (jgs_cons (jgn 4 sc_Gate_init.nd) jgs_nil)),
      js_one (js_if (jt_not (jt_val (je_callH (i := (mL ((items.getD i []).map mOpt), items.getD i [], (items.length : Int), asks)) G3 hr (by omega) (ja_cons (je_of (jv 4) (getD_map (d := []) (by simpa using hi))) (ja_cons (je_of (je_lenL (jpv 2) T.b_len) (by rw [List.length_map])) (ja1 (jv 1)))) ?_))) (fun z => by cases z) fun _ => js_nil), (by repeat (first | exact Le.nil | refine Le.same ?_ | refine Le.drop ?_))⟩) PassesOwn.never)
    (js_cons (jfld 0 (jv 1) T.c_Gate T.n_Gate_asks)
    (js_one (jfld 0 (je_callH (i := (mL (items.map fun os => mL (os.map mOpt)), gItems items)) G4 hr (by omega) (ja1 (jv 2)) ?_) T.c_Gate T.n_Gate_steps))))), .nx rfl, rfl⟩
  · have y : (!(decide ((1 : Int) ≤ ((items.map fun os => mL (os.map mOpt)).length : Int)) && decide (((items.map fun os => mL (os.map mOpt)).length : Int) ≤ 50))) = true := y
    have hl := h.l
    rw [List.length_map, decide_eq_true (by omega), decide_eq_true (by omega)] at y
    cases y
  · have hi' : i < items.length := by simpa using hi
    have := h.i _ (getD_mem (d := []) hi')
    exact ⟨⟨.inl rfl, this.1, this.2⟩, by show asks.length ≤ 1000; omega⟩
  · exact deepSq [] (.inl rfl) (by have := h.l; omega) fun os hos => deepSq none (.inl rfl) (by have := (h.i os hos).1; omega) fun o _ => .leaf isSeq_opt
abbrev H_gate_steps (P : Program) (w : World) (K : PySem.W.Frag) (mg : Str → Option Value) (base : Heap) : Prop := Has P w K mg base 1 "gate_steps" ["asks", "gate"] (spP (fun _ : Str × Str × Mp => True) (fun p => [mStr p.1, mI (He.ga K "Gate") (GateM K p.2.1 p.2.2)]) fun p => p.2.2)
theorem ok_gate_steps (T : Tx K mg) : H_gate_steps P w K mg base := by
  obtain ⟨fd, D, B⟩ := T.D_gate_steps
  refine ⟨fd, fn_pure D sc_gate_steps (fun _ => rfl) (by decide) ?_, B, T.g_gate_steps, D.kp⟩
  rintro ⟨a, g, st⟩ _ cdv A outer s H E e hr
  exact ⟨_, _, js_cons (js_if (jt_isN (t := false) (jv 1) nonB_I) (fun z => by cases z) fun _ => js_nil) (js_one (js_ret (je_fld (jv 1) rfl T.c_Gate T.n_Gate_steps))), .rt⟩
/-! ### work rows -/
def ledAt (ws : List Int) (tb : List (List Int)) (n t : Nat) : Int := minL ((List.range n).map fun s => ws.getD s 0 + (tb.getD s []).getD t 0)
def ledM (ws : List Int) (tb : List (List Int)) : List Int := (List.range ws.length).map (ledAt ws tb ws.length)
theorem minL_snoc : ∀ (xs : List Int) (y : Int), xs ≠ [] → minL (xs ++ [y]) = if y < minL xs then y else minL xs
  | [], y, h => absurd rfl h
  | [x], y, _ => by
    show min x y = _
    show _ = if y < x then y else x
    by_cases h : y < x
    · rw [if_pos h]; omega
    · rw [if_neg h]; omega
  | x :: z :: r, y, _ => by
    have ih := minL_snoc (z :: r) y (by simp)
    show min x (minL ((z :: r) ++ [y])) = if y < min x (minL (z :: r)) then y else min x (minL (z :: r))
    rw [ih]
    by_cases h : y < minL (z :: r)
    · rw [if_pos h]
      by_cases h2 : y < min x (minL (z :: r))
      · rw [if_pos h2]; omega
      · rw [if_neg h2]; omega
    · rw [if_neg h, if_neg (by omega)]
theorem ledAt_succ {ws : List Int} {tb : List (List Int)} {n t : Nat} (hn : 1 ≤ n) : ledAt ws tb (n + 1) t = if ws.getD n 0 + (tb.getD n []).getD t 0 < ledAt ws tb n t then ws.getD n 0 + (tb.getD n []).getD t 0 else ledAt ws tb n t := by
  unfold ledAt
  rw [List.range_succ, List.map_append]
  exact minL_snoc _ _ (by
    intro h
    have := congrArg List.length h
    simp at this
    omega)
structure Sq (ws : List Int) (tb : List (List Int)) : Prop where
  n : 1 ≤ ws.length ∧ ws.length ≤ 1000
  l : tb.length = ws.length
  r : ∀ r ∈ tb, r.length = ws.length
theorem atI_T {α : Type} {f : α → Mp} {xs : List α} {i : Nat} {d : α} (h : i < xs.length) : L2.atI (xs.map f) (i : Int) = some (f (xs.getD i d)) := atI_mapN (by rw [List.getD_eq_getElem?_getD, List.getElem?_eq_getElem h]; rfl)
abbrev H_led (P : Program) (w : World) (K : PySem.W.Frag) (mg : Str → Option Value) (base : Heap) : Prop := Has P w K mg base 1 "led" ["work", "table"] (spP (fun p : List Int × List (List Int) => Sq p.1 p.2) (fun p => [mNs p.1, mTb p.2]) fun p => mL ((ledM p.1 p.2).map mInt))
theorem ok_led (T : Tx K mg) : H_led P w K mg base := by
  obtain ⟨fd, D, B⟩ := T.D_led
  refine ⟨fd, fn_pure D sc_led (fun _ => rfl) (by decide) ?_, B, T.g_led, D.kp⟩
  rintro ⟨ws, tb⟩ h cdv A outer s H E e hr
  change Sq ws tb at h
  have hn := h.n
  have hl := h.l
  have nn : ((ws.length : Int)).toNat = ws.length := Int.toNat_natCast _
  have hrow : ∀ {s : Nat}, s < ws.length → (tb.getD s []).length = ws.length := fun {s} hs => h.r _ (getD_mem (by omega))
  refine ⟨_, _, js_cons (jset 2 (m := mInt (ws.length : Int)) (je_of (je_lenT (jv 0) T.b_len) (by rw [List.length_map])) sc_led.nd)
    (js_cons (jsetO 3 (jo_lst ja_nil (Nat.zero_le _)) sc_led.nd)
    (js_cons (js_forN (fun t => [.val (mNs ws), .val (mTb tb), .val (mInt (ws.length : Int)), .own (oL (((List.range t).map (ledAt ws tb ws.length)).map mInt)), .any, .any, .any, .any]) (ji_range1 (jv 2) (by omega) (by omega) T.b_range) (by repeat (first | exact Le.nil | refine Le.same ?_ | refine Le.drop ?_)) (fun t ht => ⟨_, _, jgn 4 sc_led.nd,
      js_cons (jset 5 (m := mInt (ledAt ws tb 1 t)) (je_of (je_add (je_ixNs 0 (jv 0) je_int rfl (by omega)) (je_ixNs t (je_ixTb 0 (jv 1) je_int rfl (by omega)) (jv 4) rfl (by rw [hrow (by omega)]; omega))) rfl) sc_led.nd)
      (js_cons (js_forN (fun s => [.val (mNs ws), .val (mTb tb), .val (mInt (ws.length : Int)), .own (oL (((List.range t).map (ledAt ws tb ws.length)).map mInt)), .val (mInt (t : Int)), .val (mInt (ledAt ws tb (s + 1) t)), .any, .any]) (ji_range2 je_int (jv 2) (by omega) (by omega) (by omega) (by omega) T.b_range) (by repeat (first | exact Le.nil | refine Le.same ?_ | refine Le.drop ?_)) (fun s hs => ⟨_, _, jgn 6 sc_led.nd,
        js_cons (jset 7 (m := mInt (ws.getD (s + 1) 0 + (tb.getD (s + 1) []).getD t 0)) (je_add (je_ixNs (s + 1) (jv 0) (jv 6) (by omega) (by omega)) (je_ixNs t (je_ixTb (s + 1) (jv 1) (jv 6) (by omega) (by omega)) (jv 4) rfl (by rw [hrow (by omega)]; omega))) sc_led.nd)
          (js_one (js_if (r := .nx [.val (mNs ws), .val (mTb tb), .val (mInt (ws.length : Int)), .own (oL (((List.range t).map (ledAt ws tb ws.length)).map mInt)), .val (mInt (t : Int)), .val (mInt (ledAt ws tb (s + 1 + 1) t)), .val (mInt (1 + (s : Int))), .val (mInt (ws.getD (s + 1) 0 + (tb.getD (s + 1) []).getD t 0))]) (jt_lt (jv 7) (jv 5)) (fun z => by
            rw [show ledAt ws tb (s + 1 + 1) t = ws.getD (s + 1) 0 + (tb.getD (s + 1) []).getD t 0 by rw [ledAt_succ (by omega), if_pos (of_decide_eq_true z)]]
            exact js_one (jset 5 (jv 7) sc_led.nd)) (fun z => by
            rw [show ledAt ws tb (s + 1 + 1) t = ledAt ws tb (s + 1) t by rw [ledAt_succ (by omega), if_neg (of_decide_eq_false z)]]
            exact js_nil))), (by repeat (first | exact Le.nil | refine Le.same ?_ | refine Le.drop ?_))⟩) PassesOwn.never)
      (js_one (js_app 3 (jv 5)))), ?_⟩) PassesOwn.never)
    (js_one (js_ret (jfz 3))))), .of ?_⟩
  · have e1 : ((ws.length : Int) - 1).toNat + 1 = ws.length := by omega
    rw [range_map_succ, List.map_append, e1]
    exact (by repeat (first | exact Le.nil | refine Le.same ?_ | refine Le.drop ?_))
  · rw [nn]
    rfl
/-- sums, place by place -/
def addM (xs ys : List Int) : List Int := (List.range xs.length).map fun i => xs.getD i 0 + ys.getD i 0
abbrev H_added (P : Program) (w : World) (K : PySem.W.Frag) (mg : Str → Option Value) (base : Heap) : Prop := Has P w K mg base 1 "added" ["one", "other"] (spP (fun p : List Int × List Int => p.1.length = p.2.length ∧ p.1.length ≤ 1000) (fun p => [mNs p.1, mNs p.2]) fun p => mL ((addM p.1 p.2).map mInt))
theorem ok_added (T : Tx K mg) : H_added P w K mg base := by
  obtain ⟨fd, D, B⟩ := T.D_added
  refine ⟨fd, fn_pure D sc_added (fun _ => rfl) (by decide) ?_, B, T.g_added, D.kp⟩
  rintro ⟨xs, ys⟩ ⟨hl, hn⟩ cdv A outer s H E e hr
  dsimp only at hl hn ⊢
  have hl : xs.length = ys.length := hl
  have hn : xs.length ≤ 1000 := hn
  have hN : min (xs.map mInt).length (ys.map mInt).length = xs.length := by rw [List.length_map, List.length_map]; omega
  refine ⟨_, _, js_one (js_ret (je_fz (jo_lc2 2 3 (fun i => mInt (xs.getD i 0 + ys.getD i 0)) (pi_zip2J (rJ_tup (jv 0)) (rJ_tup (jv 1)) T.b_zip) (fun s h => .inl (Option.some.inj h).symm) (fun s h => .inl (Option.some.inj h).symm)
    (fun i hi k s H C cl fp => je_of (je_add (je_of (jv 2) (getD_map (d := 0) (by rw [hN] at hi; omega))) (je_of (jv 3) (getD_map (d := 0) (by rw [hN] at hi; omega)))) rfl) (by rw [hN]; omega) sc_added.nd))), .of ?_⟩
  rw [hN]
  show mL _ = mL _
  unfold addM
  rw [List.map_map]
  rfl
end Afw

/-! text D6 -/
set_option Elab.async false
set_option linter.all false
set_option maxRecDepth 100000
set_option maxHeartbeats 4000000
namespace Afw
open PySem L2 PySem.Spec PyProof.Rows Jd
variable {P : Program} {w : World} {K : PySem.W.Frag} {mg : Str → Option Value} {base : Heap}
theorem softA {s0 : List Jd.Slot} {j : Nat} (h : s0[j]? = some .any := by rfl) : ∀ s, s0[j]? = some s → s = .any ∨ ∃ m, s = .val m := fun s q => by
  rw [h] at q
  exact .inl (Option.some.inj q).symm
theorem softV {s0 : List Jd.Slot} {j : Nat} {m : Mp} (h : s0[j]? = some (.val m) := by rfl) : ∀ s, s0[j]? = some s → s = .any ∨ ∃ m, s = .val m := fun s q => by
  rw [h] at q
  exact .inr ⟨m, (Option.some.inj q).symm⟩
def lowM (ns : List Int) : List Int := ns.map fun x => x - minL ns
abbrev H_lowered (P : Program) (w : World) (K : PySem.W.Frag) (mg : Str → Option Value) (base : Heap) : Prop := Has P w K mg base 1 "lowered" ["work"] (spP (fun p : Mp × List Int => SeqOf p.1 (p.2.map mInt) ∧ p.2 ≠ [] ∧ p.2.length ≤ 1000) (fun p => [p.1]) fun p => mT [mNs (lowM p.2), mInt (minL p.2)])
theorem ok_lowered (T : Tx K mg) : H_lowered P w K mg base := by
  obtain ⟨fd, D, B⟩ := T.D_lowered
  refine ⟨fd, fn_pure D sc_lowered (fun _ => rfl) (by decide) ?_, B, T.g_lowered, D.kp⟩
  rintro ⟨m, ns⟩ ⟨hq, hne, hl⟩ cdv A outer s H E e hr
  dsimp only at hq hne hl ⊢
  refine ⟨_, _, js_cons (jset 1 (je_minSq hq (jv 0) (room_u hr) hne T.b_min) sc_lowered.nd)
    (js_one (js_ret (je_tup (ja_cons (je_tupOf (jp_of (je_fz (jo_lc1 (jx := 2) (fun i => mInt (ns.getD i 0 - minL ns)) (ji_sq hq (jv 0)) softA (fun i hi k s H C cl fp => je_sub (je_of (jv 2) (getD_map (d := 0) (by simpa using hi))) (jv 1)) (by rw [List.length_map]; omega) sc_lowered.nd))) T.b_tuple) (ja1 (jv 1))) (Nat.le_of_ble_eq_true rfl)))), .of ?_⟩
  rw [List.length_map, range_getD_map (d := 0) (fun x => mInt (x - minL ns))]
  show mT [mT _, _] = mT [mT _, _]
  unfold lowM
  rw [List.map_map]
  rfl
abbrev H_Standings (P : Program) (w : World) (K : PySem.W.Frag) (mg : Str → Option Value) (base : Heap) : Prop := HasI P w K mg base 1 "Standings" ["self", "lots", "rows", "steps"]
  (spB (fun _ : Mp × Mp × Mp => True) (fun _ => oI (He.ga K "Standings") []) (fun p => oI (He.ga K "Standings") [("lots", p.1), ("rows", p.2.1), ("steps", p.2.2)]) (fun p => [p.1, p.2.1, p.2.2]) fun _ => mNone)
theorem ok_Standings (T : Tx K mg) : H_Standings P w K mg base := by
  obtain ⟨fd, D, B⟩ := T.D_Standings_init
  refine ⟨fd, fn_bor D sc_Standings_init (fun _ => rfl) (by decide) ?_, B, T.m_Standings, T.g_Standings⟩
  rintro ⟨a, b, c⟩ h cdv A outer s H E e ad hr
  exact ⟨_, _, js_cons (jfld 0 (jv 1) T.c_Standings T.n_Standings_lots) (js_cons (jfld 0 (jv 2) T.c_Standings T.n_Standings_rows) (js_one (jfld 0 (jv 3) T.c_Standings T.n_Standings_steps))), .nx rfl, rfl⟩
abbrev H_Web (P : Program) (w : World) (K : PySem.W.Frag) (mg : Str → Option Value) (base : Heap) : Prop := HasI P w K mg base 1 "Web" ["self", "nodes", "rows", "moves"]
  (spB (fun _ : Mp × Mp × Mp => True) (fun _ => oI (He.ga K "Web") []) (fun p => oI (He.ga K "Web") [("nodes", p.1), ("rows", p.2.1), ("moves", p.2.2)]) (fun p => [p.1, p.2.1, p.2.2]) fun _ => mNone)
theorem ok_Web (T : Tx K mg) : H_Web P w K mg base := by
  obtain ⟨fd, D, B⟩ := T.D_Web_init
  refine ⟨fd, fn_bor D sc_Web_init (fun _ => rfl) (by decide) ?_, B, T.m_Web, T.g_Web⟩
  rintro ⟨a, b, c⟩ h cdv A outer s H E e ad hr
  exact ⟨_, _, js_cons (jfld 0 (jv 1) T.c_Web T.n_Web_nodes) (js_cons (jfld 0 (jv 2) T.c_Web T.n_Web_rows) (js_one (jfld 0 (jv 3) T.c_Web T.n_Web_moves))), .nx rfl, rfl⟩
/-! ### stores -/
abbrev mLs (ns : List Int) : Mp := mL (ns.map mInt)
abbrev mLt (tb : List (List Int)) : Mp := mL (tb.map mLs)
abbrev mLc (cs : List (List (List Int))) : Mp := mL (cs.map mLt)
structure StD where
  asks : Str
  begins : List Int
  costs : List (List (List Int))
  ends : List Int
structure StOk (d : StD) : Prop where
  a : askOk d.asks = true
  n : 1 ≤ d.begins.length ∧ d.begins.length ≤ 1000
  k : (d.costs.length : Int) = d.asks.length
  c : ∀ t ∈ d.costs, t.length = d.begins.length ∧ ∀ r ∈ t, r.length = d.begins.length
  e : d.ends.length = d.begins.length
abbrev H_is_table (P : Program) (w : World) (K : PySem.W.Frag) (mg : Str → Option Value) (base : Heap) : Prop := Has P w K mg base 3 "is_table" ["thing", "many"] (spP (fun p : List (List Int) × Nat => p.1.length = p.2 ∧ ∀ r ∈ p.1, r.length = p.2) (fun p => [mLt p.1, mInt (p.2 : Int)]) fun _ => mBool true)
theorem ok_is_table (T : Tx K mg) (G1 : H_is_listed P w K mg base) (G2 : H_integers P w K mg base) : H_is_table P w K mg base := by
  obtain ⟨fd, D, B⟩ := T.D_is_table
  refine ⟨fd, fn_pure D sc_is_table (fun _ => rfl) (by decide) ?_, B, T.g_is_table, D.kp⟩
  rintro ⟨tb, n⟩ ⟨h1, h2⟩ cdv A outer s H E e hr
  dsimp only at h1 h2 ⊢
  refine ⟨_, _, js_cons (js_if (jt_w (jw_or (jt_not (jt_val (je_callH (i := (mLt tb, true)) G1 hr (by omega) (ja1 (jv 0)) isSeq_L))) fun _ => jw_one (jt_ne (je_of (je_lenL (jpv 0) T.b_len) (by rw [List.length_map])) (jv 1)))) (fun z => ?_) fun _ => js_nil)
    (js_scan 2 (s0 := [.val (mLt tb), .val (mInt (n : Int)), .any]) (ji_list (jv 0)) (by repeat (first | exact Le.nil | refine Le.same ?_ | refine Le.drop ?_)) sc_is_table.nd (t := fun _ => true) (fun i hi => jt_not (jt_val (je_callH (i := (mLs (tb.getD i []), (n : Int), true)) G2 hr (by omega) (ja_cons (je_of (jv 2) (getD_map (d := []) (by simpa using hi))) (ja1 (jv 1))) ?_))) PassesOwn.never), .of ?_⟩
  · have z : (!decide ((tb.length : Int) = n)) = true := z
    rw [decide_eq_true (by rw [h1])] at z
    cases z
  · have := ints_of (m := mLs (tb.getD i [])) (ns := tb.getD i []) (.inl rfl)
    rw [h2 _ (getD_mem (by simpa using hi))] at this
    exact this
  · show mBool _ = mBool _
    rw [all_range.mpr (fun _ _ => rfl)]
abbrev H_are_costs (P : Program) (w : World) (K : PySem.W.Frag) (mg : Str → Option Value) (base : Heap) : Prop := Has P w K mg base 4 "are_costs" ["thing", "asks", "many"] (spP (fun p : List (List (List Int)) × Str × Nat => (p.1.length : Int) = p.2.1.length ∧ p.2.1.length ≤ 1000 ∧ ∀ t ∈ p.1, t.length = p.2.2 ∧ ∀ r ∈ t, r.length = p.2.2) (fun p => [mLc p.1, mStr p.2.1, mInt (p.2.2 : Int)]) fun _ => mBool true)
theorem ok_are_costs (T : Tx K mg) (G1 : H_is_listed P w K mg base) (G2 : H_is_table P w K mg base) : H_are_costs P w K mg base := by
  obtain ⟨fd, D, B⟩ := T.D_are_costs
  refine ⟨fd, fn_pure D sc_are_costs (fun _ => rfl) (by decide) ?_, B, T.g_are_costs, D.kp⟩
  rintro ⟨cs, asks, n⟩ ⟨h1, h0, h2⟩ cdv A outer s H E e hr
  dsimp only at h1 h2 h0 ⊢
  refine ⟨_, _, js_cons (js_if (jt_w (jw_or (jt_not (jt_val (je_callH (i := (mLc cs, true)) G1 hr (by omega) (ja1 (jv 0)) isSeq_L))) fun _ => jw_one (jt_ne (je_of (je_lenL (jpv 0) T.b_len) (by rw [List.length_map])) (je_lenS (jv 1) (by omega) T.b_len)))) (fun z => ?_) fun _ => js_nil)
    (js_scan 3 (s0 := [.val (mLc cs), .val (mStr asks), .val (mInt (n : Int)), .any]) (ji_list (jv 0)) (by repeat (first | exact Le.nil | refine Le.same ?_ | refine Le.drop ?_)) sc_are_costs.nd (t := fun _ => true) (fun i hi => jt_not (jt_val (je_callH (i := (cs.getD i [], n)) G2 hr (by omega) (ja_cons (je_of (jv 3) (getD_map (d := []) (by simpa using hi))) (ja1 (jv 2))) ?_))) PassesOwn.never), .of ?_⟩
  · have z : (!decide ((cs.length : Int) = asks.length)) = true := z
    rw [decide_eq_true h1] at z
    cases z
  · exact h2 _ (getD_mem (by simpa using hi))
  · show mBool _ = mBool _
    rw [all_range.mpr (fun _ _ => rfl)]
abbrev mTc (cs : List (List (List Int))) : Mp := mT (cs.map mTb)
abbrev StoreM (d : StD) : List (Str × Mp) := [("asks", mStr d.asks), ("begins", mNs d.begins), ("costs", mTc d.costs), ("ends", mNs d.ends)]
abbrev H_Store (P : Program) (w : World) (K : PySem.W.Frag) (mg : Str → Option Value) (base : Heap) : Prop := HasI P w K mg base 7 "Store" ["self", "asks", "begins", "costs", "ends"]
  (spB (fun d : StD => StOk d) (fun _ => oI (He.ga K "Store") []) (fun d => oI (He.ga K "Store") (StoreM d)) (fun d => [mStr d.asks, mLs d.begins, mLc d.costs, mLs d.ends]) fun _ => mNone)
theorem ok_Store (T : Tx K mg) (G1 : H_check_asks P w K mg base) (G2 : H_is_listed P w K mg base) (G3 : H_integers P w K mg base) (G4 : H_are_costs P w K mg base) (G5 : H_deep P w K mg base 4) : H_Store P w K mg base := by
  obtain ⟨fd, D, B⟩ := T.D_Store_init
  refine ⟨fd, fn_bor D sc_Store_init (fun _ => rfl) (by decide) ?_, B, T.m_Store, T.g_Store⟩
  rintro ⟨asks, bs, cs, es⟩ h cdv A outer s H E e ad hr
  have hs := askOk_size h.a
  have hn := h.n
  have hk := h.k
  have hc := h.c
  have he := h.e
  dsimp only at hs hn hk hc he ⊢
  refine ⟨_, _, js_cons (js_expr (je_callH (i := asks) G1 hr (by omega) (ja1 (jv 1)) h.a))
    (js_cons (js_if (jt_w (jw_or (jt_not (jt_val (je_callH (i := (mLs bs, true)) G2 hr (by omega) (ja1 (jv 2)) isSeq_L))) fun _ => jw_or (jt_not (jt_chain (g := fun i j => decide (i ≤ j)) (g' := fun i j => decide (i ≤ j)) op_le op_le (i := 1) je_int (je_of (je_lenL (jpv 2) T.b_len) (by rw [List.length_map])) (je_globI T.v_MOST_STATES))) fun _ =>
        jw_one (jt_not (jt_val (je_callH (i := (mLs bs, (bs.length : Int), true)) G3 hr (by omega) (ja_cons (jv 2) (ja1 (je_of (je_lenL (jpv 2) T.b_len) (by rw [List.length_map])))) (ints_of (.inl rfl))))))) (fun y => ?_) fun _ => js_nil)
    (js_cons (js_if (jt_not (jt_val (je_callH (i := (cs, asks, bs.length)) G4 hr (by omega) (ja_cons (jv 3) (ja_cons (jv 1) (ja1 (je_of (je_lenL (jpv 2) T.b_len) (by rw [List.length_map]))))) ⟨hk, by show asks.length ≤ 1000; omega, hc⟩))) (fun y => by cases y) fun _ => js_nil)
    (js_cons (js_if (jt_not (jt_val (je_callH (i := (mLs es, (bs.length : Int), true)) G3 hr (by omega) (ja_cons (jv 4) (ja1 (je_of (je_lenL (jpv 2) T.b_len) (by rw [List.length_map])))) (by have := ints_of (m := mLs es) (ns := es) (.inl rfl); rw [he] at this; exact this)))) (fun y => by cases y) fun _ => js_nil)
    (js_cons (jfld 0 (jv 1) T.c_Store T.n_Store_asks)
    (js_cons (jfld 0 (je_callH (i := (mLs bs, mNs bs)) G5 hr (by omega) (ja1 (jv 2)) (deepNs (.inl rfl) (by omega))) T.c_Store T.n_Store_begins)
    (js_cons (jfld 0 (je_callH (i := (mLc cs, mTc cs)) G5 hr (by omega) (ja1 (jv 3)) ?_) T.c_Store T.n_Store_costs)
    (js_one (jfld 0 (je_callH (i := (mLs es, mNs es)) G5 hr (by omega) (ja1 (jv 4)) (deepNs (.inl rfl) (by omega))) T.c_Store T.n_Store_ends)))))))), .nx rfl, rfl⟩
  · have y : (!(decide ((1 : Int) ≤ (bs.length : Int)) && decide ((bs.length : Int) ≤ 1000)) || !true) = true := y
    rw [decide_eq_true (by omega), decide_eq_true (by omega)] at y
    cases y
  · exact deepSq [] (.inl rfl) (by omega) fun t ht => deepSq [] (.inl rfl) (by have := (hc t ht).1; omega) fun r hr => deepNs (.inl rfl) (by have := (hc t ht).2 r hr; omega)
end Afw

/-! text D7 -/
set_option Elab.async false
set_option linter.all false
set_option maxRecDepth 100000
set_option maxHeartbeats 4000000
namespace Afw
open PySem L2 PySem.Spec PyProof.Rows Jd
variable {P : Program} {w : World} {K : PySem.W.Frag} {mg : Str → Option Value} {base : Heap}
/-! ### all standings -/
theorem lowM_len {ns : List Int} : (lowM ns).length = ns.length := by unfold lowM; rw [List.length_map]
theorem ledM_len {ws : List Int} {tb : List (List Int)} : (ledM ws tb).length = ws.length := by unfold ledM; rw [List.length_map, List.length_range]
def lotK (d : StD) (lot : List Int) (k : Nat) : List Int := lowM (ledM lot (d.costs.getD k []))
def leastK (d : StD) (lot : List Int) (k : Nat) : Int := minL (ledM lot (d.costs.getD k []))
def lotsT (d : StD) (lot : List Int) (lots : List (List Int)) : Nat → List (List Int)
  | 0 => lots
  | k + 1 => putX (lotsT d lot lots k) (lotK d lot k)
def itemT (d : StD) (lot : List Int) (lots : List (List Int)) (k : Nat) : Int × Int := ((atX (lotsT d lot lots k) (lotK d lot k) : Nat), leastK d lot k)
def stB (d : StD) : Nat → List (List Int) × List (List (Int × Int))
  | 0 => ([lowM d.begins], [])
  | i + 1 => (lotsT d ((stB d i).1.getD i []) (stB d i).1 d.asks.length, (stB d i).2 ++ [(List.range d.asks.length).map (itemT d ((stB d i).1.getD i []) (stB d i).1)])
/-- the first place where all lots have their steps -/
structure StEnd (d : StD) (T : Nat) : Prop where
  e : (stB d T).1.length = T
  b : ∀ i, i < T → i < (stB d i).1.length
theorem lotsT_le {d : StD} {lot : List Int} {lots : List (List Int)} : ∀ k, lots.length ≤ (lotsT d lot lots k).length
  | 0 => Nat.le_refl _
  | k + 1 => Nat.le_trans (lotsT_le k) putX_le
theorem lotsT_mono {d : StD} {lot : List Int} {lots : List (List Int)} {k j : Nat} (h : k ≤ j) : (lotsT d lot lots k).length ≤ (lotsT d lot lots j).length := by
  induction j with
  | zero => rw [Nat.le_zero.mp h]; exact Nat.le_refl _
  | succ j ih =>
    by_cases z : k = j + 1
    · rw [z]; exact Nat.le_refl _
    · exact Nat.le_trans (ih (by omega)) putX_le
theorem stB_mono {d : StD} {i j : Nat} (h : i ≤ j) : (stB d i).1.length ≤ (stB d j).1.length := by
  induction j with
  | zero => rw [Nat.le_zero.mp h]; exact Nat.le_refl _
  | succ j ih =>
    by_cases z : i = j + 1
    · rw [z]; exact Nat.le_refl _
    · exact Nat.le_trans (ih (by omega)) (lotsT_le _)
theorem stB_steps {d : StD} : ∀ i, (stB d i).2.length = i
  | 0 => rfl
  | i + 1 => by
    show ((stB d i).2 ++ [_]).length = _
    rw [List.length_append, stB_steps i]
    rfl
theorem lotsT_all {d : StD} {lot : List Int} {lots : List (List Int)} {n : Nat} (h0 : ∀ l ∈ lots, l.length = n) (h1 : lot.length = n) : ∀ k, ∀ l ∈ lotsT d lot lots k, l.length = n
  | 0 => h0
  | k + 1 => by
    intro l hl
    unfold lotsT putX at hl
    split at hl
    · exact lotsT_all h0 h1 k l hl
    · rcases List.mem_append.mp hl with z | z
      · exact lotsT_all h0 h1 k l z
      · rw [List.mem_singleton.mp z]
        unfold lotK
        rw [lowM_len, ledM_len, h1]
theorem stB_all {d : StD} (T : Nat) (h : ∀ i, i < T → i < (stB d i).1.length) : ∀ i, i ≤ T → ∀ l ∈ (stB d i).1, l.length = d.begins.length := by
  intro i
  induction i with
  | zero =>
    intro _ l hl
    rw [List.mem_singleton.mp hl, lowM_len]
  | succ i ih =>
    intro hi
    exact lotsT_all (ih (by omega)) (ih (by omega) _ (getD_mem (h i (by omega)))) _
abbrev rowsM (L : Nat) : List Mp := (List.range L).map mSh
theorem rowsM_succ {n : Nat} : rowsM (n + 1) = rowsM n ++ [mSh n] := range_map_succ _ _
theorem posOf_put {α : Type} [DecidableEq α] {xs : List α} {x : α} : posOf (putX xs x) x = some (atX xs x) := by
  by_cases h : x ∈ xs
  · obtain ⟨h1, h2⟩ := atX_old h
    rw [h1, h2]
  · obtain ⟨h1, h2⟩ := atX_new h
    rw [h1, h2, posOf_snoc h]
abbrev mPair (p : Int × Int) : Mp := mT [mInt p.1, mInt p.2]
abbrev mItem (it : List (Int × Int)) : Mp := mT (it.map mPair)
abbrev mSteps (st : List (List (Int × Int))) : Mp := mT (st.map mItem)
abbrev mStore (K : PySem.W.Frag) (d : StD) : Mp := mI (He.ga K "Store") (StoreM d)
abbrev stP (K : PySem.W.Frag) (w : World) (d : StD) (i : Nat) : List Jd.Slot := [.val (mStore K d), .own (oL ((stB d i).1.map mNs)), .own (oL (rowsM (stB d i).1.length)), .own (oN w (kvsN numKey (stB d i).1)), .own (oL ((stB d i).2.map mItem)), .any, .any, .any, .any, .any, .any, .any]
abbrev stQ (K : PySem.W.Frag) (w : World) (d : StD) (lot : List Int) (lots : List (List Int)) (steps : List (List (Int × Int))) (i k : Nat) : List Jd.Slot :=
  [.val (mStore K d), .own (oL ((lotsT d lot lots k).map mNs)), .own (oL (rowsM (lotsT d lot lots k).length)), .own (oN w (kvsN numKey (lotsT d lot lots k))), .own (oL (steps.map mItem)), .val (mNs lot), .val (mSh i), .own (oL (((List.range k).map (itemT d lot lots)).map mPair)), .any, .any, .any, .any]
abbrev H_standings (P : Program) (w : World) (K : PySem.W.Frag) (mg : Str → Option Value) (base : Heap) : Prop := Has P w K mg base 3 "standings" ["store"] (spP (fun p : StD × Nat => StOk p.1 ∧ StEnd p.1 p.2 ∧ p.2 ≤ 900) (fun p => [mStore K p.1])
  fun p => mI (He.ga K "Standings") [("lots", mT ((stB p.1 p.2).1.map mNs)), ("rows", mT (rowsM (stB p.1 p.2).1.length)), ("steps", mSteps (stB p.1 p.2).2)])
theorem ok_standings (T : Tx K mg) (G1 : H_led P w K mg base) (G2 : H_lowered P w K mg base) (G3 : H_Standings P w K mg base) : H_standings P w K mg base := by
  obtain ⟨fd, D, B⟩ := T.D_standings
  refine ⟨fd, fn_pure D sc_standings (fun _ => rfl) (by decide) ?_, B, T.g_standings, D.kp⟩
  rintro ⟨d, N⟩ ⟨hd, hE, hN⟩ cdv A outer s H E e hr
  dsimp only at hd hE hN ⊢
  have hs := askOk_size hd.a
  have hn := hd.n
  have hk := hd.k
  have hall := stB_all N hE.b
  have hlen : ∀ i, i ≤ N → (stB d i).1.length ≤ N := fun i hi => by have := stB_mono (d := d) hi; rw [hE.e] at this; exact this
  have hu : (cxOf CX0 P w K mg base N_standings "standings" (defScope (top 44)) (He.ga K "standings") cdv A outer s H E).nox.A.units + 9 < cLine := room_u hr
  -- one ask
  have turn : ∀ i, i < N → ∀ k, k < d.asks.cps.size → (lotsT d ((stB d i).1.getD i []) (stB d i).1 (k + 1)).length ≤ N := fun i hi k hk' => by
    have h1 := lotsT_mono (d := d) (lot := (stB d i).1.getD i []) (lots := (stB d i).1) (show k + 1 ≤ d.asks.length by exact hk')
    have h2 : (lotsT d ((stB d i).1.getD i []) (stB d i).1 d.asks.length).length ≤ N := hlen (i + 1) hi
    omega
  refine ⟨_, _, js_cons (jsetO 1 (jo_lst (ja1 (je_ixT (je_callH (i := (mNs d.begins, d.begins)) G2 hr (by omega) (ja1 (je_fld (jv 0) rfl T.c_Store T.n_Store_begins)) ⟨.inr rfl, fun h => by have h : d.begins = [] := h; rw [h] at hn; simp at hn, hn.2⟩) (i := 0) (m := mNs (lowM d.begins)) je_int rfl)) (Nat.le_of_ble_eq_true rfl)) sc_standings.nd)
    (js_cons (jsetO 2 (jo_lst (ja1 (je_weak je_str (mSh_of (n := 0) (Nat.le_refl 0)))) (Nat.le_of_ble_eq_true rfl)) sc_standings.nd)
    (js_cons (jsetO 3 (jo_ndisp (k := numKey (lowM d.begins)) (r := 0) hu (fun kk => je_ix (jpo 1) (i := 0) (m := mNs (lowM d.begins)) je_int rfl) (fun kk => je_int) keyOf_nums ⟨_, rfl⟩) sc_standings.nd)
    (js_cons (jsetO 4 (jo_lst ja_nil (Nat.zero_le _)) sc_standings.nd)
    (js_cons (js_while (k := N) (P := stP K w d) (rs := fun i => .nx (stP K w d (i + 1))) (last := false) (by repeat (first | exact Le.nil | refine Le.same ?_ | refine Le.drop ?_)) (fun i hi => ?_) ?_ (fun i hi => ?_) (fun h => by cases h) (fun i hi => .nx Le.rfl) (.inl ⟨rfl, rfl⟩) PassesOwn.never)
    (js_one (js_ret (je_fzI (jo_makeH (i := (mT ((stB d N).1.map mNs), mT (rowsM (stB d N).1.length), mSteps (stB d N).2)) G3 hr (by omega) (ja_cons (je_tupOf (jpo 1) T.b_tuple) (ja_cons (je_tupOf (jpo 2) T.b_tuple) (ja1 (je_tupOf (jpo 4) T.b_tuple)))) trivial)))))))), .of rfl⟩
  · refine jt_of (jt_lt (je_lenL (jpo 4) T.b_len) (je_lenL (jpo 1) T.b_len)) ?_
    rw [List.length_map, List.length_map, stB_steps]
    exact decide_eq_true (by have := hE.b i hi; omega)
  · refine jt_of (jt_lt (je_lenL (jpo 4) T.b_len) (je_lenL (jpo 1) T.b_len)) ?_
    rw [List.length_map, List.length_map, stB_steps, hE.e]
    exact decide_eq_false (by omega)
  · have hi2 := hE.b i hi
    have hrow : (rowsM (stB d i).1.length).length = (stB d i).1.length := by simp
    refine js_cons (jset 5 (je_ixLF [] i (jpo 1) (je_lenL (jpo 4) T.b_len) (by rw [List.length_map, stB_steps]) hi2) sc_standings.nd)
      (js_cons (jset 6 (je_ixLF 0 i (jpo 2) (je_lenL (jpo 4) T.b_len) (by rw [List.length_map, stB_steps]) (by simpa using hi2) (m := mSh i) (by rw [List.getD_eq_getElem?_getD, List.getElem?_range hi2]; rfl)) sc_standings.nd)
      (js_cons (jsetO 7 (jo_lst ja_nil (Nat.zero_le _)) sc_standings.nd)
      (js_cons (js_forN (fun k => stQ K w d ((stB d i).1.getD i []) (stB d i).1 (stB d i).2 i k) (pi_enumJ (rJ_str (je_fld (jv 0) rfl T.c_Store T.n_Store_asks)) T.b_enumerate) (by repeat (first | exact Le.nil | refine Le.same ?_ | refine Le.drop ?_)) (fun k hk' => ?_) PassesOwn.never)
      (js_weak (js_one (js_app 4 (je_tupOf (jpo 7) T.b_tuple) (hl := by rw [List.length_map, stB_steps]; omega))) ?_))))
    · have lotn : ((stB d i).1.getD i []).length = d.begins.length := hall i (by omega) _ (getD_mem hi2)
      have tN := turn i hi k hk'
      have kc : k < d.costs.length := by have : k < d.asks.length := hk'; omega
      have sq : Sq ((stB d i).1.getD i []) (d.costs.getD k []) := ⟨by rw [lotn]; exact hn, by rw [lotn]; exact (hd.c _ (getD_mem kc)).1, fun r hr => by rw [lotn]; exact (hd.c _ (getD_mem kc)).2 r hr⟩
      have ln : (ledM ((stB d i).1.getD i []) (d.costs.getD k [])).length = d.begins.length := by rw [ledM_len, lotn]
      generalize (stB d i).1.getD i [] = lot at lotn tN sq ln
      generalize hL : lotsT d lot (stB d i).1 k = L
      have e0 : lotsT d lot (stB d i).1 (k + 1) = putX L (lotK d lot k) := by rw [← hL]; rfl
      have iL : i < L.length := Nat.lt_of_lt_of_le hi2 (by rw [← hL]; exact lotsT_le _)
      rw [e0] at tN
      have LN : L.length ≤ N := Nat.le_trans putX_le tN
      have gk : getN (kvsN numKey L) (numKey (lotK d lot k)) = (posOf L (lotK d lot k)).map fun i : Nat => (i : Int) := getN_kvs fun _ _ => numKey_inj
      have gp : getN (kvsN numKey (putX L (lotK d lot k))) (numKey (lotK d lot k)) = some ((atX L (lotK d lot k) : Nat) : Int) := by
        rw [getN_kvs fun _ _ => numKey_inj, posOf_put]
        rfl
      refine ⟨_, _, jg_tup (jgs_cons (jgn 8 sc_standings.nd) (jgs_cons (jgn 9 sc_standings.nd) jgs_nil)),
        js_cons (js_asg (je_callH (i := (mL ((ledM lot (d.costs.getD k [])).map mInt), ledM lot (d.costs.getD k []))) G2 hr (by omega) (ja1 (je_callH (i := (lot, d.costs.getD k [])) G1 hr (by omega) (ja_cons (jv 5) (ja1 (je_ixF [] k (je_fld (jv 0) rfl T.c_Store T.n_Store_costs) (jv 8) rfl kc))) sq)) ⟨.inl rfl, fun h => by have h : ledM lot (d.costs.getD k []) = [] := h; rw [h] at ln; simp at ln; omega, by show (ledM lot (d.costs.getD k [])).length ≤ 1000; omega⟩) (jg_tup (jgs_cons (jgn 10 sc_standings.nd) (jgs_cons (jgn 11 sc_standings.nd) jgs_nil))))
        (js_cons (js_if (r := .nx [.val (mStore K d), .own (oL ((putX L (lotK d lot k)).map mNs)), .own (oL (rowsM (putX L (lotK d lot k)).length)), .own (oN w (kvsN numKey (putX L (lotK d lot k)))), .own (oL ((stB d i).2.map mItem)), .val (mNs lot), .val (mSh i), .own (oL (((List.range k).map (itemT d lot (stB d i).1)).map mPair)), .val (mInt (k : Int)), .val (mStr (chr1 d.asks k)), .val (mNs (lotK d lot k)), .val (mInt (leastK d lot k))])
            (jt_nnotin (i := 3) (kvs := kvsN numKey L) (k := numKey (lotK d lot k)) hu (jv 10) keyOf_nums ⟨_, rfl⟩ (by rw [← hL]; rfl) rfl) (fun z => ?_) (fun z => ?_))
        (js_one (js_app 7 (je_tup (ja_cons (je_nget (i := 3) (r := ((atX L (lotK d lot k) : Nat) : Int)) hu (jv 10) keyOf_nums ⟨_, rfl⟩ rfl ⟨_, rfl⟩ gp rfl) (ja1 (jv 11))) (Nat.le_of_ble_eq_true rfl))))), ?_⟩
      · have hno : lotK d lot k ∉ L := by
          rw [gk, Option.isSome_map] at z
          refine posOf_none.mp ?_
          cases q : posOf L (lotK d lot k) with
          | none => rfl
          | some j => rw [q] at z; cases z
        have gk' : getN (kvsN numKey L) (numKey (lotK d lot k)) = none := by rw [gk, posOf_none.mpr hno]; rfl
        rw [(atX_new hno).1] at tN ⊢
        rw [List.length_append, List.length_singleton] at tN
        rw [List.map_append, kvsN_snoc, List.length_append, List.length_singleton, rowsM_succ]
        subst hL
        exact js_cons (js_if (jt_eq (je_lenL (jpo 1) T.b_len) (je_globI T.v_MOST_STANDINGS)) (fun y => by
            have y := of_decide_eq_true y
            rw [List.length_map] at y
            omega) fun _ => js_nil)
          (js_cons (js_nput (i := 3) (kvs := kvsN numKey (lotsT d lot (stB d i).1 k)) (r := ((lotsT d lot (stB d i).1 k).length : Int)) hu (je_of (je_lenL (jpo 1) T.b_len) (by rw [List.length_map])) (jv 10) keyOf_nums ⟨_, rfl⟩ rfl ⟨_, rfl⟩ gk' (by rw [kvsN_length]; omega) rfl)
          (js_cons (js_app 1 (jv 10) (hl := by rw [List.length_map]; omega))
          (js_one (js_app 2 (je_weak (je_addSh (jv 6) (je_weak (jv 9) (mSh_of (z := chr1 d.asks k) (n := 1) (Nat.le_refl 1))) (by omega)) (mSh_le iL)) (hl := by rw [List.length_map, List.length_range]; omega)))))
      · have hin : lotK d lot k ∈ L := by
          rw [gk, Option.isSome_map] at z
          cases q : posOf L (lotK d lot k) with
          | none => rw [q] at z; cases z
          | some j => exact List.mem_of_getElem? (posOf_some q).2
        rw [(atX_old hin).1]
        subst hL
        exact js_nil
      · show Le _ [_, .own (oL ((putX (lotsT d lot (stB d i).1 k) (lotK d lot k)).map mNs)), .own (oL (rowsM (putX (lotsT d lot (stB d i).1 k) (lotK d lot k)).length)), .own (oN w (kvsN numKey (putX (lotsT d lot (stB d i).1 k) (lotK d lot k)))), _, _, _, .own (oL (((List.range (k + 1)).map (itemT d lot (stB d i).1)).map mPair)), _, _, _, _]
        rw [range_map_succ, List.map_append]
        subst hL
        exact (by repeat (first | exact Le.nil | refine Le.same ?_ | refine Le.drop ?_))
    · show Le _ [_, .own (oL (((lotsT d ((stB d i).1.getD i []) (stB d i).1 d.asks.length)).map mNs)), _, _, .own (oL (((stB d i).2 ++ [(List.range d.asks.length).map (itemT d ((stB d i).1.getD i []) (stB d i).1)]).map mItem)), _, _, _, _, _, _, _]
      rw [List.map_append]
      exact (by repeat (first | exact Le.nil | refine Le.same ?_ | refine Le.drop ?_))
end Afw

/-! text D8 -/
set_option Elab.async false
set_option linter.all false
set_option maxRecDepth 100000
set_option maxHeartbeats 4000000
namespace Jd
open PySem PySem.W L2
/-- what isinstance asks of an own class -/
structure IsiC (K : PySem.W.Frag) (C : Addr) : Prop where
  c : Cls K C
  a : PySem.W.findIn K (.ref C) "__class__" = some (some (.builtin "object.__class__"))
  n : PySem.W.specialIn K (.builtin "object.__class__") "__get__" = some (some (.builtin "getset_descriptor.__get__"))
  t : PySem.W.takesIn K (.builtin "object.__class__") = some true
  m : PySem.W.mroIn K C (.type "object") = some true
section
variable {X : Cx} {e : En} {ss ss' ss1 ss2 ss3 s0 : List Slot} {σ : St} {F F' H H' : Hp} {a b c x y it elt tg : Expr} {pos p q : Pos} {m n o : Mp} {i j : Int} {ms : List Mp} {nm : Str}
theorem je_isiC {C : Addr} {fs : List (Str × Mp)} {nT : Str} (hI : IsiC X.K C) (ha : JE X e a ss (mI C fs) ss1) (hm : X.mg "isinstance" = none) (hT : X.mg nT = some (.ref C)) (hg : Gl X "isinstance" := by rfl) (hgT : Gl X nT := by rfl) (hd : (nT == ("__debug__" : Str)) = false := by decide)
    (hs : starEach [a, .Name nT q] X.env = (false, eval a X.env) :: starEach [.Name nT q] X.env := by rfl) (hs2 : starEach [.Name nT q] X.env = (false, eval (.Name nT q) X.env) :: starEach [] X.env := by rfl)
    (hpl : (backTo pos (starEach [.Name nT q] X.env)).any (·.1) = false := by rfl) : JE X e (.Call (.Name "isinstance" p) [a, .Name nT q] [] pos) ss (mBool true) ss1 :=
  PE_mono (pe_callB call_isi hg hm (by decide +kernel) (pa_cons ha (pa_cons (pe_glob (v := .ref C) hgT hT rfl hd) pa_nil hs2) hs) (by decide) (by decide) hs hpl) fun σ H Q ⟨F, I, k⟩ => ⟨F, I, fun v F1 H1 x1 I1 hv => by
    obtain ⟨a, u, rfl, h1, dx, vs, rfl, h2⟩ := hv
    exact ⟨_, .ref C, .ref C, .ref C, true, rfl, .own C, .base (.ins (I1.sub _ _ h1) hI.c hI.a hI.n hI.t hI.m), by unfold PySem.W.kitOne; rw [if_pos (beq_self_eq_true _)], k _ F1 H1 x1 I1 rfl⟩⟩
theorem ixN_nat {n i : Nat} (h : i < n) : ixN n (i : Int) = some i := by
  have : L2.atI (List.range n) (i : Int) = some i := atI_nat (List.getElem?_range h)
  obtain ⟨j, h1, h2⟩ := Option.bind_eq_some_iff.mp this
  rw [List.length_range] at h1
  have hj : j < n := by
    obtain ⟨hj, _⟩ := List.getElem?_eq_some_iff.mp h2
    simpa using hj
  rw [List.getElem?_range hj] at h2
  cases h2
  exact h1
/-- xs[j] = v of an own list -/
theorem jsetI (s jx : Nat) {p1 : Pos} (he : JE X e x ss m ss1) (hj : JE X e y ss1 (mInt j) ss2) (hi : j = (jx : Int)) (hs : ss2[s]? = some (.own (oL ms)) := by rfl) (hs0 : ∃ ms0, ss1[s]? = some (.own (oL ms0)) := by exact ⟨_, rfl⟩) (hl : jx < ms.length := by first | omega | (simp; omega)) (hN : X.N[s]? = some nm := by rfl)
    (hv : Vis X.env.scope nm := by first | exact Or.inl rfl | exact Or.inr (Or.inl rfl) | exact Or.inr (Or.inr rfl)) (hd : (nm == ("__debug__" : Str)) = false := by decide) (hcd : (nm == ("__classdict__" : Str)) = false := by decide)
    (ha : ∀ v, assign (.Subscript (.Name nm p) y p1) X.env v = (do
      let ov ← holding [v] (eval (.Name nm p) X.env)
      let iv ← holding [v, ov] (eval y X.env)
      standAt p1
      holding [v, ov, iv] (setItem ov iv v)
      release [v, ov, iv] []) := by intro _; rfl)
    (h1 : swapsWithSole [.Subscript (.Name nm p) y p1] x pos.line X.env = pure false := by rfl) (h2 : swappedStores [.Subscript (.Name nm p) y p1] x X.env = pure none := by rfl)
    (h3 : (assignEach [.Subscript (.Name nm p) y p1] X.env).map (·.2) = [assign (.Subscript (.Name nm p) y p1) X.env] := by rfl) :
    JS X e (.Assign [.Subscript (.Name nm p) y p1] x pos) ss (.nx (ss2.set s (.own (oL (ms.set jx m))))) :=
  js_setI he hj hs hs0 (by rw [hi]; exact ixN_nat hl) hN hv hd hcd ha h1 h2 h3
end
theorem nodup_lt : ∀ (n : Nat) (l : List Nat), l.Nodup → (∀ x ∈ l, x < n) → l.length ≤ n
  | 0, l, _, h => by
    cases l with
    | nil => exact Nat.le_refl _
    | cons x _ => exact absurd (h x List.mem_cons_self) (Nat.not_lt_zero _)
  | n + 1, l, hd, h => by
    have ih := nodup_lt n (l.erase n) (hd.erase n) (fun x hx => by
      have h1 := h x (List.mem_of_mem_erase hx)
      have h2 : x ≠ n := fun z => by
        subst z
        exact (hd.mem_erase_iff.mp hx).1 rfl
      omega)
    have := List.length_erase (a := n) (l := l)
    split at this
    · omega
    · omega
theorem putX_nodup {α : Type} [DecidableEq α] {xs : List α} {x : α} (h : xs.Nodup) : (putX xs x).Nodup := by
  unfold putX
  split
  · exact h
  · rename_i hx
    rw [List.nodup_append]
    refine ⟨h, by simp, fun a ha b hb => ?_⟩
    rw [List.mem_singleton.mp hb]
    exact fun z => hx (z ▸ ha)
theorem putX_all {α : Type} [DecidableEq α] {p : α → Prop} {xs : List α} {x : α} (h : ∀ y ∈ xs, p y) (hx : p x) : ∀ y ∈ putX xs x, p y := by
  unfold putX
  split
  · exact h
  · intro y hy
    rcases List.mem_append.mp hy with z | z
    · exact h y z
    · rw [List.mem_singleton.mp z]; exact hx
theorem posOf_le {α : Type} [DecidableEq α] {xs : List α} {x : α} {i : Nat} (h : xs[i]? = some x) : ∃ j, j ≤ i ∧ posOf xs x = some j := by
  cases z : posOf xs x with
  | none => exact absurd (List.mem_of_getElem? h) (posOf_none.mp z)
  | some j =>
    refine ⟨j, ?_, rfl⟩
    unfold posOf at z
    rw [List.findIdx?_eq_some_iff_getElem] at z
    obtain ⟨h1, h2, h3⟩ := z
    by_cases c : i < j
    · have := h3 i c
      obtain ⟨h4, h5⟩ := List.getElem?_eq_some_iff.mp h
      rw [h5] at this
      simp at this
    · omega
/-- the least place where a count is not under way -/
theorem least_stop {f : Nat → Nat} {n : Nat} (h : f n ≤ n) : ∃ T, T ≤ n ∧ f T ≤ T ∧ ∀ i, i < T → i < f i := by
  induction n with
  | zero => exact ⟨0, Nat.le_refl _, h, fun i hi => absurd hi (Nat.not_lt_zero _)⟩
  | succ n ih =>
    by_cases c : ∃ i, i ≤ n ∧ f i ≤ i
    · obtain ⟨i, hi, hf⟩ := c
      have : ∀ n, (∃ i, i ≤ n ∧ f i ≤ i) → ∃ T, T ≤ n ∧ f T ≤ T ∧ ∀ i, i < T → i < f i := by
        intro n
        induction n with
        | zero => intro ⟨i, hi, hf⟩; have : i = 0 := by omega
                  subst this; exact ⟨0, Nat.le_refl _, hf, fun i hi => absurd hi (Nat.not_lt_zero _)⟩
        | succ n ih =>
          intro ⟨i, hi, hf⟩
          by_cases c : ∃ i, i ≤ n ∧ f i ≤ i
          · obtain ⟨T, h1, h2, h3⟩ := ih c
            exact ⟨T, by omega, h2, h3⟩
          · have e : i = n + 1 := by
              by_cases z : i ≤ n
              · exact absurd ⟨i, z, hf⟩ c
              · omega
            subst e
            refine ⟨n + 1, Nat.le_refl _, hf, fun j hj => ?_⟩
            by_cases z : f j ≤ j
            · exact absurd ⟨j, by omega, z⟩ c
            · omega
      obtain ⟨T, h1, h2, h3⟩ := this n ⟨i, hi, hf⟩
      exact ⟨T, by omega, h2, h3⟩
    · refine ⟨n + 1, Nat.le_refl _, h, fun j hj => ?_⟩
      by_cases z : f j ≤ j
      · exact absurd ⟨j, by omega, z⟩ c
      · omega
end Jd
namespace Afw
open PySem L2 PySem.Spec PyProof.Rows Jd
variable {P : Program} {w : World} {K : PySem.W.Frag} {mg : Str → Option Value} {base : Heap}
/-! ### machines -/
/-- steps over n kinds with c asks -/
structure StepsOk (st : List (List (Int × Int))) (c : Nat) : Prop where
  n : 1 ≤ st.length ∧ st.length ≤ 1000
  l : ∀ it ∈ st, it.length = c
  k : ∀ it ∈ st, ∀ p ∈ it, 0 ≤ p.1 ∧ p.1 < st.length
abbrev H_is_item_machines (P : Program) (w : World) (K : PySem.W.Frag) (mg : Str → Option Value) (base : Heap) : Prop := Has P w K mg base 3 "is_item_machines" ["thing", "many", "asks"] (spP (fun p : List (Int × Int) × Int × Str => (p.1.length : Int) = p.2.2.length ∧ p.2.2.length ≤ 1000 ∧ ∀ q ∈ p.1, 0 ≤ q.1 ∧ q.1 < p.2.1) (fun p => [mItem p.1, mInt p.2.1, mStr p.2.2]) fun p => mBool true)
theorem ok_is_item_machines (T : Tx K mg) (G1 : H_is_listed P w K mg base) (G2 : H_is_count P w K mg base) (G3 : H_is_integer P w K mg base) : H_is_item_machines P w K mg base := by
  obtain ⟨fd, D, B⟩ := T.D_is_item_machines
  refine ⟨fd, fn_pure D sc_is_item_machines (fun _ => rfl) (by decide) ?_, B, T.g_is_item_machines, D.kp⟩
  rintro ⟨it, many, asks⟩ ⟨h1, h2, h3⟩ cdv A outer s H E e hr
  dsimp only at h1 h2 h3 ⊢
  have gp : ∀ i, i < (it.map mPair).length → (it.map mPair).getD i mTrue = mPair (it.getD i (0, 0)) := fun i hi => getD_map (by simpa using hi)
  refine ⟨_, _, js_cons (js_if (jt_w (jw_or (jt_not (jt_val (je_callH (i := (mItem it, true)) G1 hr (by omega) (ja1 (jv 0)) isSeq_T))) fun _ => jw_one (jt_ne (je_of (je_lenT (jv 0) T.b_len) (by rw [List.length_map])) (je_lenS (jv 2) (by omega) T.b_len)))) (fun z => ?_) fun _ => js_nil)
    (js_cons (js_forN (fun _ => [.val (mItem it), .val (mInt many), .val (mStr asks), .any]) (ji_tup (jv 0)) (by repeat (first | exact Le.nil | refine Le.same ?_ | refine Le.drop ?_)) (fun i hi => ⟨_, _, jgn 3 sc_is_item_machines.nd,
      js_cons (js_if (jt_w (jw_or (jt_not (jt_val (je_callH (i := (mPair (it.getD i (0, 0)), true)) G1 hr (by omega) (ja1 (je_of (jv 3) (gp i hi))) isSeq_T))) fun _ => jw_one (jt_ne (je_lenT (ms := [mInt (it.getD i (0, 0)).1, mInt (it.getD i (0, 0)).2]) (je_of (jv 3) (gp i hi)) T.b_len) (je_int (i := 2))))) (fun z => by cases z) fun _ => js_nil)
      (js_one (js_if (jt_w (jw_or (jt_not (jt_val (je_callH (i := ((it.getD i (0, 0)).1, 0, many - 1)) G2 hr (by omega) (ja_cons (je_ixT (ms := [mInt (it.getD i (0, 0)).1, mInt (it.getD i (0, 0)).2]) (i := 0) (je_of (jv 3) (gp i hi)) je_int rfl) (ja_cons je_int (ja1 (je_sub (jv 1) je_int)))) trivial))) fun _ =>
          jw_one (jt_not (jt_val (je_callH (i := (mInt (it.getD i (0, 0)).2, true)) G3 hr (by omega) (ja1 (je_ixT (ms := [mInt (it.getD i (0, 0)).1, mInt (it.getD i (0, 0)).2]) (i := 1) (je_of (jv 3) (gp i hi)) je_int rfl)) isInt_int))))) (fun z => ?_) fun _ => js_nil)), (by repeat (first | exact Le.nil | refine Le.same ?_ | refine Le.drop ?_))⟩) PassesOwn.never)
    (js_one (js_ret je_bool))), .rt⟩
  · have z : (!decide ((it.length : Int) = asks.length)) = true := z
    rw [decide_eq_true h1] at z
    cases z
  · have hq := h3 (it.getD i (0, 0)) (getD_mem (by simpa using hi))
    have z : (!(decide ((0 : Int) ≤ (it.getD i (0, 0)).1) && decide ((it.getD i (0, 0)).1 ≤ many - 1)) || !true) = true := z
    rw [decide_eq_true hq.1, decide_eq_true (by omega)] at z
    cases z
end Afw

/-! text D9 -/
set_option Elab.async false
set_option linter.all false
set_option maxRecDepth 100000
set_option maxHeartbeats 4000000
namespace Afw
open PySem L2 PySem.Spec PyProof.Rows Jd
variable {P : Program} {w : World} {K : PySem.W.Frag} {mg : Str → Option Value} {base : Heap}
def kidK (st : List (List (Int × Int))) (kind k : Nat) : Nat := ((st.getD kind []).getD k (0, 0)).1.toNat
def lineT (st : List (List (Int × Int))) (kind : Nat) (line : List Nat) : Nat → List Nat
  | 0 => line
  | k + 1 => putX (lineT st kind line k) (kidK st kind k)
def lnB (st : List (List (Int × Int))) (c : Nat) : Nat → List Nat
  | 0 => [0]
  | i + 1 => lineT st ((lnB st c i).getD i 0) (lnB st c i) c
theorem lineT_le {st : List (List (Int × Int))} {kind : Nat} {line : List Nat} : ∀ k, line.length ≤ (lineT st kind line k).length
  | 0 => Nat.le_refl _
  | k + 1 => Nat.le_trans (lineT_le k) putX_le
theorem lineT_old {st : List (List (Int × Int))} {kind : Nat} {line : List Nat} {i : Nat} (h : i < line.length) : ∀ k, (lineT st kind line k)[i]? = line[i]?
  | 0 => rfl
  | k + 1 => by
    show (putX _ _)[i]? = _
    rw [putX_old (Nat.lt_of_lt_of_le h (lineT_le k)), lineT_old h k]
theorem kid_lt {st : List (List (Int × Int))} {c : Nat} (h : StepsOk st c) {kind k : Nat} (h1 : kind < st.length) (h2 : k < c) : kidK st kind k < st.length ∧ ((st.getD kind []).getD k (0, 0)).1 = ((kidK st kind k : Nat) : Int) := by
  have hm := getD_mem (d := []) h1
  have hl := h.l _ hm
  have := h.k _ hm ((st.getD kind []).getD k (0, 0)) (getD_mem (by omega))
  unfold kidK
  omega
theorem lineT_ok {st : List (List (Int × Int))} {c : Nat} (h : StepsOk st c) {kind : Nat} {line : List Nat} (h1 : kind < st.length) (hd : line.Nodup) (hl : ∀ x ∈ line, x < st.length) : ∀ k, k ≤ c → (lineT st kind line k).Nodup ∧ ∀ x ∈ lineT st kind line k, x < st.length
  | 0, _ => ⟨hd, hl⟩
  | k + 1, hk => by
    obtain ⟨a, b⟩ := lineT_ok h h1 hd hl k (by omega)
    exact ⟨putX_nodup a, putX_all b (kid_lt h h1 (by omega)).1⟩
theorem lnB_ok {st : List (List (Int × Int))} {c : Nat} (h : StepsOk st c) : ∀ i, (lnB st c i).Nodup ∧ ∀ x ∈ lnB st c i, x < st.length
  | 0 => ⟨by show [0].Nodup; simp, fun x hx => by rw [List.mem_singleton.mp hx]; exact h.n.1⟩
  | i + 1 => by
    obtain ⟨a, b⟩ := lnB_ok h i
    refine lineT_ok h ?_ a b c (Nat.le_refl _)
    by_cases z : i < (lnB st c i).length
    · exact b _ (getD_mem z)
    · rw [List.getD_eq_getElem?_getD, List.getElem?_eq_none (Nat.le_of_not_lt z)]
      exact h.n.1
theorem lnB_len {st : List (List (Int × Int))} {c : Nat} (h : StepsOk st c) (i : Nat) : (lnB st c i).length ≤ st.length := nodup_lt _ _ (lnB_ok h i).1 (lnB_ok h i).2
def rowF (line : List Nat) (i : Nat) : Mp := match posOf line i with
  | some p => mSh p
  | none => mNone
abbrev mNat (i : Nat) : Mp := mInt (i : Int)
theorem rowF_some {line : List Nat} {i p : Nat} (h : posOf line i = some p) : rowF line i = mSh p := by unfold rowF; rw [h]
theorem rowF_none {line : List Nat} {i : Nat} (h : posOf line i = none) : rowF line i = mNone := by unfold rowF; rw [h]
theorem rowF_B {line : List Nat} {i : Nat} : NonB (rowF line i) (posOf line i).isNone := by
  cases z : posOf line i with
  | some p => rw [rowF_some z]; exact nonB_sh
  | none => rw [rowF_none z]; exact nonB_none
theorem posOf_old {α : Type} [DecidableEq α] {xs : List α} {x y : α} (h : y ≠ x) : posOf (xs ++ [x]) y = posOf xs y := by
  unfold posOf
  rw [List.findIdx?_append]
  have : List.findIdx? (fun z => decide (z = y)) [x] = none := by
    rw [List.findIdx?_eq_none_iff]
    intro z hz
    rw [List.mem_singleton.mp hz]
    exact decide_eq_false (Ne.symm h)
  rw [this]
  cases List.findIdx? (fun z => decide (z = y)) xs <;> rfl
theorem rows_snoc {line : List Nat} {n x : Nat} (h : x ∉ line) (hx : x < n) : ((List.range n).map (rowF line)).set x (mSh line.length) = (List.range n).map (rowF (line ++ [x])) := by
  apply List.ext_getElem
  · simp
  · intro i h1 h2
    rw [List.getElem_set, List.getElem_map, List.getElem_map, List.getElem_range]
    by_cases z : x = i
    · subst z
      rw [if_pos rfl, rowF_some (posOf_snoc h)]
    · rw [if_neg z]
      unfold rowF
      rw [posOf_old (Ne.symm z)]
abbrev lrP (asks : Str) (st : List (List (Int × Int))) (i : Nat) : List Jd.Slot := [.val (mStr asks), .val (mSteps st), .own (oL ((List.range st.length).map (rowF (lnB st asks.length i)))), .own (oL ((lnB st asks.length i).map mNat)), .val (mNat i), .any, .any, .any, .any]
abbrev lrQ (asks : Str) (st : List (List (Int × Int))) (i kind : Nat) (L : List Nat) : List Jd.Slot := [.val (mStr asks), .val (mSteps st), .own (oL ((List.range st.length).map (rowF L))), .own (oL (L.map mNat)), .val (mNat (i + 1)), .val (mNat kind), .any, .any, .any]
abbrev H_least_rows (P : Program) (w : World) (K : PySem.W.Frag) (mg : Str → Option Value) (base : Heap) : Prop := Has P w K mg base 1 "least_rows" ["asks", "steps"] (spP (fun p : Str × List (List (Int × Int)) => StepsOk p.2 p.1.length ∧ p.1.length ≤ 1000) (fun p => [mStr p.1, mSteps p.2]) fun p => mTrue)
theorem ok_least_rows (T : Tx K mg) : H_least_rows P w K mg base := by
  obtain ⟨fd, D, B⟩ := T.D_least_rows
  refine ⟨fd, fn_pure D sc_least_rows (fun _ => rfl) (by decide) ?_, B, T.g_least_rows, D.kp⟩
  rintro ⟨asks, st⟩ ⟨h, ha⟩ cdv A outer s H E e hr
  dsimp only at h ha ⊢
  have hn := h.n
  obtain ⟨N, hN, hE, hB⟩ := least_stop (f := fun i => (lnB st asks.length i).length) (lnB_len h st.length)
  refine ⟨_, _, js_cons (jsetO 2 (jo_rep (je_fzl (jo_lst (ja1 je_none) (Nat.le_of_ble_eq_true rfl))) (je_of (je_lenT (jv 1) T.b_len) (by rw [List.length_map])) (by omega) (by omega)) sc_least_rows.nd)
    (js_cons (jsetI 2 0 (je_weak je_str (mSh_of (n := 0) (Nat.le_refl 0))) je_int rfl (hl := by simp; omega))
    (js_cons (jsetO 3 (jo_lst (ja1 je_int) (Nat.le_of_ble_eq_true rfl)) sc_least_rows.nd)
    (js_cons (jset 4 je_int sc_least_rows.nd)
    (js_cons (js_while (k := N) (P := lrP asks st) (rs := fun i => .nx (lrP asks st (i + 1))) (last := false) ?_ (fun i hi => ?_) ?_ (fun i hi => ?_) (fun h => by cases h) (fun i hi => .nx Le.rfl) (.inl ⟨rfl, rfl⟩) PassesOwn.never)
    (js_one (js_ret (je_weak (je_tupOf (jpo 2) T.b_tuple) fun _ _ _ => trivial))))))), .of rfl⟩
  · have e : ((List.replicate ((st.length : Int)).toNat mNone).set 0 (mSh 0)) = (List.range st.length).map (rowF [0]) := by
      rw [Int.toNat_natCast]
      apply List.ext_getElem
      · simp
      · intro i h1 h2
        rw [List.getElem_set, List.getElem_map, List.getElem_range, List.getElem_replicate]
        by_cases z : 0 = i
        · subst z; rfl
        · rw [if_neg z]
          refine (rowF_none (posOf_none.mpr fun hx => ?_)).symm
          exact z (List.mem_singleton.mp hx).symm
    show Le _ [_, _, .own (oL ((List.range st.length).map (rowF [0]))), .own (oL [mInt 0]), .val (mInt 0), _, _, _, _]
    rw [← e]
    exact (by repeat (first | exact Le.nil | refine Le.same ?_ | refine Le.drop ?_))
  · refine jt_of (jt_lt (jv 4) (je_lenL (jpo 3) T.b_len)) ?_
    rw [List.length_map]
    exact decide_eq_true (by have := hB i hi; omega)
  · refine jt_of (jt_lt (jv 4) (je_lenL (jpo 3) T.b_len)) ?_
    rw [List.length_map]
    exact decide_eq_false (by omega)
  · have hi2 : i < (lnB st asks.length i).length := hB i hi
    have hkn : (lnB st asks.length i).getD i 0 < st.length := (lnB_ok h i).2 _ (getD_mem hi2)
    have hLk := lineT_ok h hkn (lnB_ok h i).1 (lnB_ok h i).2
    have hat : ∀ k, (lineT st ((lnB st asks.length i).getD i 0) (lnB st asks.length i) k)[i]? = some ((lnB st asks.length i).getD i 0) := fun k => by rw [lineT_old hi2, getD_some hi2]
    refine js_cons (jset 5 (m := mNat ((lnB st asks.length i).getD i 0)) (je_ixLF 0 i (jpo 3) (jv 4) rfl hi2) sc_least_rows.nd)
      (js_cons (jset 4 (m := mNat (i + 1)) (je_of (je_add (jv 4) je_int) (by rfl)) sc_least_rows.nd)
      (js_weak (js_one (js_forN (fun k => lrQ asks st i ((lnB st asks.length i).getD i 0) (lineT st ((lnB st asks.length i).getD i 0) (lnB st asks.length i) k)) (pi_enumJ (rJ_str (jv 0)) T.b_enumerate) (by repeat (first | exact Le.nil | refine Le.same ?_ | refine Le.drop ?_)) (fun k hk => ?_) PassesOwn.never)) (by repeat (first | exact Le.nil | refine Le.same ?_ | refine Le.drop ?_))))
    have hk' : k < asks.length := hk
    obtain ⟨k1, k2⟩ := kid_lt h hkn hk'
    obtain ⟨kp, kj, kq⟩ := posOf_le (hat k)
    have ln := nodup_lt _ _ (hLk k (by omega)).1 (hLk k (by omega)).2
    have iL : i < (lineT st ((lnB st asks.length i).getD i 0) (lnB st asks.length i) k).length := Nat.lt_of_lt_of_le hi2 (lineT_le _)
    show ∃ B s, JG _ _ _ _ _ _ ∧ JSs _ _ _ _ _ ∧ Le s (lrQ asks st i ((lnB st asks.length i).getD i 0) (putX (lineT st ((lnB st asks.length i).getD i 0) (lnB st asks.length i) k) (kidK st ((lnB st asks.length i).getD i 0) k)))
    have il : (st.getD ((lnB st asks.length i).getD i 0) []).length = asks.length := h.l _ (getD_mem hkn)
    generalize lineT st ((lnB st asks.length i).getD i 0) (lnB st asks.length i) k = L at kq ln iL
    generalize (lnB st asks.length i).getD i 0 = kind at k1 k2 kq hkn il
    refine ⟨_, _, jg_tup (jgs_cons (jgn 6 sc_least_rows.nd) (jgs_cons (jgn 7 sc_least_rows.nd) jgs_nil)),
      js_cons (jset 8 (m := mNat (kidK st kind k)) (je_of (je_ixT (ms := [mInt ((st.getD kind []).getD k (0, 0)).1, mInt ((st.getD kind []).getD k (0, 0)).2]) (i := 0) (je_ixF (f := mPair) (xs := st.getD kind []) (0, 0) k (je_ixF (f := mItem) (xs := st) [] kind (jv 1) (jv 5) rfl hkn) (jv 6) rfl (by omega)) je_int rfl) (by rw [k2])) sc_least_rows.nd)
      (js_one (js_if (r := .nx [.val (mStr asks), .val (mSteps st), .own (oL ((List.range st.length).map (rowF (putX L (kidK st kind k))))), .own (oL ((putX L (kidK st kind k)).map mNat)), .val (mNat (i + 1)), .val (mNat kind), .val (mInt (k : Int)), .val (mStr (chr1 asks k)), .val (mNat (kidK st kind k))])
        (jt_isN (je_ixLF 0 (kidK st kind k) (jpo 2) (jv 8) rfl (by simpa using k1) (m := rowF L (kidK st kind k)) (by rw [List.getD_eq_getElem?_getD, List.getElem?_range k1]; rfl)) rowF_B) (fun z => ?_) (fun z => ?_))), (by repeat (first | exact Le.nil | refine Le.same ?_ | refine Le.drop ?_))⟩
    · have hno : kidK st kind k ∉ L := posOf_none.mp (by
        cases q : posOf L (kidK st kind k) with
        | none => rfl
        | some j => rw [q] at z; cases z)
      rw [(atX_new hno).1, ← rows_snoc hno k1, List.map_append]
      exact js_cons (jsetI 2 (kidK st kind k) (je_weak (je_addSh (je_weak (je_ixLF 0 kind (jpo 2) (jv 5) rfl (by simpa using hkn) (m := mSh kp) (by rw [List.getD_eq_getElem?_getD, List.getElem?_range hkn]; exact rowF_some kq)) (mSh_le kj)) (je_weak (jv 7) (mSh_of (z := chr1 asks k) (n := 1) (Nat.le_refl 1))) (by omega)) (mSh_le iL)) (jv 8) rfl (hl := by simpa using k1))
        (js_one (js_app 3 (jv 8) (hl := by rw [List.length_map]; omega)))
    · have hin : kidK st kind k ∈ L := by
        cases q : posOf L (kidK st kind k) with
        | none => rw [q] at z; cases z
        | some j => exact List.mem_of_getElem? (posOf_some q).2
      rw [(atX_old hin).1]
      exact js_nil
/-! ### Machine -/
abbrev MachM (asks : Str) (first : Int) (st : List (List (Int × Int))) : List (Str × Mp) := [("asks", mStr asks), ("first", mInt first), ("steps", mSteps st), ("rows", mTrue)]
abbrev H_Machine (P : Program) (w : World) (K : PySem.W.Frag) (mg : Str → Option Value) (base : Heap) : Prop := HasI P w K mg base 7 "Machine" ["self", "asks", "first", "steps"]
  (spB (fun p : Str × Int × List (List (Int × Int)) => askOk p.1 = true ∧ StepsOk p.2.2 p.1.length) (fun _ => oI (He.ga K "Machine") []) (fun p => oI (He.ga K "Machine") (MachM p.1 p.2.1 p.2.2)) (fun p => [mStr p.1, mInt p.2.1, mL (p.2.2.map mItem)]) fun _ => mNone)
theorem ok_Machine (T : Tx K mg) (G1 : H_check_asks P w K mg base) (G2 : H_is_integer P w K mg base) (G3 : H_is_listed P w K mg base) (G4 : H_is_item_machines P w K mg base) (G5 : H_deep P w K mg base 4) (G6 : H_least_rows P w K mg base) : H_Machine P w K mg base := by
  obtain ⟨fd, D, B⟩ := T.D_Machine_init
  refine ⟨fd, fn_bor D sc_Machine_init (fun _ => rfl) (by decide) ?_, B, T.m_Machine, T.g_Machine⟩
  rintro ⟨asks, first, st⟩ ⟨h0, h⟩ cdv A outer s H E e ad hr
  dsimp only at h0 h ⊢
  have hs := askOk_size h0
  have hn := h.n
  refine ⟨_, _, js_cons (js_expr (je_callH (i := asks) G1 hr (by omega) (ja1 (jv 1)) h0))
    (js_cons (js_if (jt_w (jw_or (jt_not (jt_val (je_callH (i := (mInt first, true)) G2 hr (by omega) (ja1 (jv 2)) isInt_int))) fun _ => jw_or (jt_not (jt_val (je_callH (i := (mL (st.map mItem), true)) G3 hr (by omega) (ja1 (jv 3)) isSeq_L))) fun _ =>
        jw_one (jt_not (jt_chain (g := fun i j => decide (i ≤ j)) (g' := fun i j => decide (i ≤ j)) op_le op_le (i := 1) je_int (je_of (je_lenL (jpv 3) T.b_len) (by rw [List.length_map])) (je_globI T.v_MOST_KINDS))))) (fun y => ?_) fun _ => js_nil)
    (js_cons (js_forN (fun _ => [.bor ad (oI (He.ga K "Machine") []), .val (mStr asks), .val (mInt first), .val (mL (st.map mItem)), .any, .any]) (pi_enumJ (rJ_list (jv 3)) T.b_enumerate) (by repeat (first | exact Le.nil | refine Le.same ?_ | refine Le.drop ?_)) (fun i hi => ⟨_, _, jg_tup (jgs_cons (jgn 4 sc_Machine_init.nd) (jgs_cons (jgn 5 sc_Machine_init.nd) jgs_nil)),
      js_one (js_if (jt_not (jt_val (je_callH (i := (st.getD i [], (st.length : Int), asks)) G4 hr (by omega) (ja_cons (je_of (jv 5) (getD_map (f := mItem) (xs := st) (d := []) (by simpa using hi))) (ja_cons (je_of (je_lenL (jpv 3) T.b_len) (by rw [List.length_map])) (ja1 (jv 1)))) ?_))) (fun z => by cases z) fun _ => js_nil), (by repeat (first | exact Le.nil | refine Le.same ?_ | refine Le.drop ?_))⟩) PassesOwn.never)
    (js_cons (jfld 0 (jv 1) T.c_Machine T.n_Machine_asks)
    (js_cons (jfld 0 (jv 2) T.c_Machine T.n_Machine_first)
    (js_cons (jfld 0 (je_callH (i := (mL (st.map mItem), mSteps st)) G5 hr (by omega) (ja1 (jv 3)) ?_) T.c_Machine T.n_Machine_steps)
    (js_one (jfld 0 (je_callH (i := (asks, st)) G6 hr (by omega) (ja_cons (jv 1) (ja1 (je_fldB (i := 0) rfl rfl T.c_Machine T.n_Machine_steps rfl))) ⟨h, by show asks.length ≤ 1000; omega⟩) T.c_Machine T.n_Machine_rows))))))), .nx rfl, rfl⟩
  · have y : (!true || (!true || !(decide ((1 : Int) ≤ (st.length : Int)) && decide ((st.length : Int) ≤ 1000)))) = true := y
    rw [decide_eq_true (by omega), decide_eq_true (by omega)] at y
    cases y
  · have hm := getD_mem (d := []) (show i < st.length by simpa using hi)
    exact ⟨by show ((st.getD i []).length : Int) = asks.length; rw [h.l _ hm], by show asks.length ≤ 1000; omega, h.k _ hm⟩
  · exact deepSq [] (.inl rfl) (by omega) fun it hit => deepSq (0, 0) (.inr rfl) (by rw [h.l it hit]; omega) fun p _ => .tup (ms := [mInt p.1, mInt p.2]) (fun i => match i with | 0 => mInt p.1 | _ => mInt p.2) (Nat.le_of_ble_eq_true rfl) fun i hi => by
      match i, hi with
      | 0, _ => exact .leaf isSeq_int
      | 1, _ => exact .leaf isSeq_int
end Afw

/-! text D10 -/
set_option Elab.async false
set_option linter.all false
set_option maxRecDepth 100000
set_option maxHeartbeats 4000000
namespace Afw
open PySem L2 PySem.Spec PyProof.Rows Jd
variable {P : Program} {w : World} {K : PySem.W.Frag} {mg : Str → Option Value} {base : Heap}
/-! ### classes of alike kinds -/
abbrev Sg := Nat × List (Nat × Int)
abbrev StT := List (List (Int × Int))
def signK (st : StT) (cls : List Nat) (k : Nat) : Sg := (cls.getD k 0, (st.getD k []).map fun p => (cls.getD p.1.toNat 0, p.2))
def knT (st : StT) (cls : List Nat) : Nat → List Sg
  | 0 => []
  | k + 1 => putX (knT st cls k) (signK st cls k)
def fdT (st : StT) (cls : List Nat) (k : Nat) : Nat := atX (knT st cls k) (signK st cls k)
def clB (st : StT) : Nat → List Nat × Nat
  | 0 => (List.replicate st.length 0, 1)
  | t + 1 => ((List.range st.length).map (fdT st (clB st t).1), (knT st (clB st t).1 st.length).length)
structure ClEnd (st : StT) (T : Nat) : Prop where
  e : (clB st (T + 1)).2 = (clB st T).2
  b : ∀ t, t < T → (clB st (t + 1)).2 ≠ (clB st t).2
theorem knT_len (st : StT) (cls : List Nat) : ∀ k, (knT st cls k).length ≤ k
  | 0 => Nat.le_refl _
  | k + 1 => by
    have h1 := knT_len st cls k
    have h2 := putX_le1 (xs := knT st cls k) (x := signK st cls k)
    show (putX _ _).length ≤ _
    omega
theorem knT_mem {st : StT} {cls : List Nat} {j k : Nat} (h : j < k) : signK st cls j ∈ knT st cls k := by
  induction k with
  | zero => exact absurd h (Nat.not_lt_zero _)
  | succ k ih =>
    show _ ∈ putX _ _
    by_cases z : j = k
    · subst z; exact putX_mem
    · have := ih (by omega)
      unfold putX
      split
      · exact this
      · exact List.mem_append_left _ this
theorem knT_hit (st : StT) (cls : List Nat) : ∀ k v, v < (knT st cls k).length → ∃ j, j < k ∧ fdT st cls j = v
  | 0, v, h => absurd h (Nat.not_lt_zero _)
  | k + 1, v, h => by
    by_cases z : v < (knT st cls k).length
    · obtain ⟨j, h1, h2⟩ := knT_hit st cls k v z
      exact ⟨j, by omega, h2⟩
    · have h' : v < (putX (knT st cls k) (signK st cls k)).length := h
      by_cases m : signK st cls k ∈ knT st cls k
      · rw [(atX_old m).1] at h'; exact absurd h' z
      · rw [(atX_new m).1] at h'
        rw [List.length_append, List.length_singleton] at h'
        exact ⟨k, Nat.lt_succ_self k, by unfold fdT; rw [(atX_new m).2]; omega⟩
theorem clB_len (st : StT) : ∀ t, (clB st t).1.length = st.length
  | 0 => List.length_replicate
  | t + 1 => by show ((List.range st.length).map _).length = _; simp
theorem clB_full {st : StT} (hn : 1 ≤ st.length) : ∀ t v, v < (clB st t).2 → ∃ k, k < st.length ∧ (clB st t).1.getD k 0 = v
  | 0, v, h => by
    have h : v < 1 := h
    refine ⟨0, hn, ?_⟩
    show (List.replicate st.length 0).getD 0 0 = v
    rw [List.getD_eq_getElem?_getD, List.getElem?_replicate, if_pos (by omega)]
    show 0 = v
    omega
  | t + 1, v, h => by
    obtain ⟨k, h1, h2⟩ := knT_hit st (clB st t).1 st.length v h
    refine ⟨k, h1, ?_⟩
    show ((List.range st.length).map _).getD k 0 = v
    rw [List.getD_eq_getElem?_getD, List.getElem?_map, List.getElem?_range h1]
    exact h2
theorem clB_mono {st : StT} (hn : 1 ≤ st.length) (t : Nat) : (clB st t).2 ≤ (clB st (t + 1)).2 := by
  have := full_len (clB st t).2 ((knT st (clB st t).1 st.length).map (·.1)) fun v hv => by
    obtain ⟨k, h1, h2⟩ := clB_full hn t v hv
    exact List.mem_map.mpr ⟨_, knT_mem h1, h2⟩
  rw [List.length_map] at this
  exact this
theorem cl_end {st : StT} (hn : 1 ≤ st.length) : ∃ T, T ≤ st.length ∧ ClEnd st T := by
  have key : ∃ i, i ≤ st.length ∧ (clB st (i + 1)).2 = (clB st i).2 := by
    by_cases c : ∃ i, i ≤ st.length ∧ (clB st (i + 1)).2 = (clB st i).2
    · exact c
    · exfalso
      have up : ∀ i, i ≤ st.length + 1 → 1 + i ≤ (clB st i).2 := by
        intro i
        induction i with
        | zero => intro _; exact Nat.le_refl _
        | succ i ih =>
          intro hi
          have h1 := ih (by omega)
          have h2 := clB_mono hn i
          have h3 : (clB st (i + 1)).2 ≠ (clB st i).2 := fun z => c ⟨i, by omega, z⟩
          omega
      have h1 := up (st.length + 1) (Nat.le_refl _)
      have h2 : (clB st (st.length + 1)).2 ≤ st.length := knT_len _ _ _
      omega
  obtain ⟨T, h1, h2, h3⟩ := first_of (p := fun i => (clB st (i + 1)).2 = (clB st i).2) st.length key
  exact ⟨T, h1, h2, h3⟩
theorem clB_lt {st : StT} (hn : 1 ≤ st.length) : ∀ t, ∀ x ∈ (clB st t).1, x < st.length
  | 0 => fun x hx => by
    obtain ⟨_, h⟩ := List.mem_replicate.mp hx
    omega
  | t + 1 => fun x hx => by
    obtain ⟨k, hk, rfl⟩ := List.mem_map.mp hx
    have hk := List.mem_range.mp hk
    have h1 : fdT st (clB st t).1 k < (putX (knT st (clB st t).1 k) (signK st (clB st t).1 k)).length := atX_lt.1
    have h2 := knT_len st (clB st t).1 (k + 1)
    have h3 : (knT st (clB st t).1 (k + 1)).length = (putX (knT st (clB st t).1 k) (signK st (clB st t).1 k)).length := rfl
    omega
/-- the key of a sign -/
def prK (p : Nat × Int) : NestedKey := .tup [.num p.1, .num p.2]
def sgKey (s : Sg) : NestedKey := .tup [.num s.1, .tup (s.2.map prK)]
theorem map_inj {α β : Type} {f : α → β} (h : ∀ x y, f x = f y → x = y) : ∀ xs ys : List α, xs.map f = ys.map f → xs = ys
  | [], [], _ => rfl
  | x :: xs, y :: ys, e => by
    injection e with e1 e2
    rw [h _ _ e1, map_inj h xs ys e2]
  | [], _ :: _, e => by cases e
  | _ :: _, [], e => by cases e
theorem prK_inj (p q : Nat × Int) (h : prK p = prK q) : p = q := by
  unfold prK at h
  injection h with h
  injection h with h1 h
  injection h with h2 h
  injection h1 with h1
  injection h2 with h2
  exact Prod.ext (by omega) h2
theorem sgKey_inj (s t : Sg) (h : sgKey s = sgKey t) : s = t := by
  unfold sgKey at h
  injection h with h
  injection h with h1 h
  injection h with h2 h
  injection h1 with h1
  injection h2 with h2
  exact Prod.ext (by omega) (map_inj prK_inj _ _ h2)
abbrev mPrN (p : Nat × Int) : Mp := mT [mNat p.1, mInt p.2]
abbrev mSg (s : Sg) : Mp := mT [mNat s.1, mT (s.2.map mPrN)]
theorem keyP_int {H : Hp} {i : Int} {v : V} (h : (mInt i).p H v) : keyP H (.num i) v := by rw [keyP]; exact h
theorem keyP_tup {H : Hp} {ms : List Mp} {ks : List NestedKey} {v : V} (h : (mT ms).p H v) (hl : ms.length = ks.length) (hk : ∀ (i : Nat) m k, ms[i]? = some m → ks[i]? = some k → ∀ H v, m.p H v → keyP H k v) : keyP H (.tup ks) v := by
  obtain ⟨a, vs, rfl, h1, h2⟩ := h
  rw [keyP]
  exact ⟨a, vs, rfl, h1, keysP_of (f := []) hk hl h2⟩
theorem keyP_pr {H : Hp} {p : Nat × Int} {v : V} (h : (mPrN p).p H v) : keyP H (prK p) v := keyP_tup h rfl fun i m k h1 h2 H v hm => by
  match i, h1, h2 with
  | 0, h1, h2 => cases h1; cases h2; exact keyP_int hm
  | 1, h1, h2 => cases h1; cases h2; exact keyP_int hm
theorem keyP_map {α : Type} {f : α → Mp} {g : α → NestedKey} (hfg : ∀ a H v, (f a).p H v → keyP H (g a) v) {xs : List α} {H : Hp} {v : V} (h : (mT (xs.map f)).p H v) : keyP H (.tup (xs.map g)) v := keyP_tup h (by simp) fun i m k h1 h2 H v hm => by
  rw [List.getElem?_map] at h1 h2
  cases z : xs[i]? with
  | none => rw [z] at h1; cases h1
  | some a => rw [z] at h1 h2; cases h1; cases h2; exact hfg a H v hm
theorem keyP_sg {H : Hp} {s : Sg} {v : V} (h : (mSg s).p H v) : keyP H (sgKey s) v := keyP_tup h rfl fun i m k h1 h2 H v hm => by
  match i, h1, h2 with
  | 0, h1, h2 => cases h1; cases h2; exact keyP_int hm
  | 1, h1, h2 => cases h1; cases h2; exact keyP_map (fun a H v => keyP_pr) hm
theorem depthAll_le {n : Nat} : ∀ {ks : List NestedKey}, (∀ k ∈ ks, k.depth ≤ n) → NestedKey.depthAll ks ≤ n
  | [], _ => Nat.zero_le _
  | k :: ks, h => by
    show max k.depth (NestedKey.depthAll ks) ≤ n
    have h1 := h k List.mem_cons_self
    have h2 := depthAll_le (n := n) (ks := ks) fun x hx => h x (List.mem_cons_of_mem _ hx)
    omega
theorem depth_num {i : Int} : NestedKey.depth (.num i) = 0 := rfl
theorem depth_pr (p : Nat × Int) : (prK p).depth ≤ 1 := by
  show NestedKey.depthAll _ + 1 ≤ 1
  have := depthAll_le (n := 0) (ks := [.num p.1, .num p.2]) fun k hk => by
    rcases List.mem_cons.mp hk with z | z
    · rw [z]; exact Nat.le_refl _
    · rw [List.mem_singleton.mp z]; exact Nat.le_refl _
  omega
theorem keyOf_sg {s : Sg} : KeyOf (mSg s) (sgKey s) := by
  refine ⟨?_, fun H v => keyP_sg⟩
  show NestedKey.depthAll _ + 1 ≤ 8
  have h2 : NestedKey.depthAll (s.2.map prK) ≤ 1 := depthAll_le fun k hk => by
    obtain ⟨p, _, rfl⟩ := List.mem_map.mp hk
    exact depth_pr p
  have := depthAll_le (n := 2) (ks := [.num s.1, .tup (s.2.map prK)]) fun k hk => by
    rcases List.mem_cons.mp hk with z | z
    · rw [z]; exact Nat.zero_le _
    · rw [List.mem_singleton.mp z]
      show NestedKey.depthAll _ + 1 ≤ 2
      omega
  omega
abbrev clP (st : StT) (t : Nat) : List Jd.Slot := [.val (mL (st.map mItem)), .val (mL ((clB st t).1.map mNat)), .val (mNat (clB st t).2), .any, .any, .any, .any, .any, .any, .any]
abbrev clQ (w : World) (st : StT) (t k : Nat) : List Jd.Slot := [.val (mL (st.map mItem)), .val (mL ((clB st t).1.map mNat)), .val (mNat (clB st t).2), .own (oN w (kvsN sgKey (knT st (clB st t).1 k))), .own (oL (((List.range k).map (fdT st (clB st t).1)).map mNat)), .any, .any, .any, .any, .any]
abbrev H_classes_of (P : Program) (w : World) (K : PySem.W.Frag) (mg : Str → Option Value) (base : Heap) : Prop := Has P w K mg base 1 "classes_of" ["steps"] (spP (fun p : StT × Nat × Nat => StepsOk p.1 p.2.2 ∧ p.2.2 ≤ 1000 ∧ ClEnd p.1 p.2.1) (fun p => [mL (p.1.map mItem)]) fun p => mL ((clB p.1 (p.2.1 + 1)).1.map mNat))
theorem ok_classes_of (T : Tx K mg) : H_classes_of P w K mg base := by
  obtain ⟨fd, D, B⟩ := T.D_classes_of
  refine ⟨fd, fn_pure D sc_classes_of (fun _ => rfl) (by decide) ?_, B, T.g_classes_of, D.kp⟩
  rintro ⟨st, N, c⟩ ⟨h, hc, hE⟩ cdv A outer s H E e hr
  dsimp only at h hc hE ⊢
  have hn := h.n
  have hu : (cxOf CX0 P w K mg base N_classes_of "classes_of" (defScope (top 61)) (He.ga K "classes_of") cdv A outer s H E).nox.A.units + 9 < cLine := room_u hr
  refine ⟨_, [.val (mL (st.map mItem)), .val (mL ((clB st (N + 1)).1.map mNat)), .any, .any, .any, .any, .any, .any, .any, .any], js_cons (jset 1 (je_fz (jo_rep (je_fzl (jo_lst (ja1 je_int) (Nat.le_of_ble_eq_true rfl))) (je_of (je_lenL (jpv 0) T.b_len) (by rw [List.length_map])) (by omega) (by omega))) sc_classes_of.nd)
    (js_cons (jset 2 je_int sc_classes_of.nd)
    (js_one (js_whileT (k := N) (P := clP st) (rs := fun t => if t = N then .rt (mL ((clB st (N + 1)).1.map mNat)) [.val (mL (st.map mItem)), .val (mL ((clB st (N + 1)).1.map mNat)), .any, .any, .any, .any, .any, .any, .any, .any] else .nx (clP st (t + 1))) ?_ (fun t ht => jt_val je_bool) (fun t ht => ?_) (fun t ht => ?_) ?_ PassesOwn.never))), .rt⟩
  · show Le _ [_, .val (mL ((List.replicate st.length 0).map mNat)), .val (mInt 1), _, _, _, _, _, _, _]
    rw [List.map_replicate, Int.toNat_natCast]
    exact (by repeat (first | exact Le.nil | refine Le.same ?_ | refine Le.drop ?_))
  · have cl := clB_len st t
    refine js_cons (jsetO 3 jo_dnewN sc_classes_of.nd) (js_cons (jsetO 4 (jo_lst ja_nil (Nat.zero_le _)) sc_classes_of.nd)
      (js_cons (js_forN (clQ w st t) (ji_enum (f := mItem) (xs := st) [] (.inl rfl) (jv 0) T.b_enumerate (g := fun i => mItem (st.getD i [])) (fun _ _ => rfl)) (by repeat (first | exact Le.nil | refine Le.same ?_ | refine Le.drop ?_)) (fun k hk => ?_) PassesOwn.never)
      (js_cons (jset 1 (jfz 4) sc_classes_of.nd) ?_)))
    · have hit := getD_mem (d := []) hk
      have il : (st.getD k []).length = c := h.l _ hit
      have kb : (knT st (clB st t).1 (k + 1)).length ≤ k + 1 := knT_len _ _ _
      have kb0 : (knT st (clB st t).1 k).length ≤ k := knT_len _ _ _
      show ∃ B s, JG _ _ _ _ _ _ ∧ JSs _ _ _ _ _ ∧ Le s [_, _, _, .own (oN w (kvsN sgKey (putX (knT st (clB st t).1 k) (signK st (clB st t).1 k)))), .own (oL (((List.range (k + 1)).map (fdT st (clB st t).1)).map mNat)), _, _, _, _, _]
      rw [range_map_succ, List.map_append]
      show ∃ B s, JG _ _ _ _ _ _ ∧ JSs _ _ _ _ _ ∧ Le s [_, _, _, _, .own (oL (((List.range k).map (fdT st (clB st t).1)).map mNat ++ [mNat (atX (knT st (clB st t).1 k) (signK st (clB st t).1 k))])), _, _, _, _, _]
      have kb' : (putX (knT st (clB st t).1 k) (signK st (clB st t).1 k)).length ≤ k + 1 := kb
      generalize hS : signK st (clB st t).1 k = S at kb'
      generalize hL : knT st (clB st t).1 k = L at kb' kb0
      have gk : getN (kvsN sgKey L) (sgKey S) = (posOf L S).map fun i : Nat => (i : Int) := getN_kvs sgKey_inj
      have gp : getN (kvsN sgKey (putX L S)) (sgKey S) = some ((atX L S : Nat) : Int) := by
        rw [getN_kvs sgKey_inj, posOf_put]
        rfl
      refine ⟨_, _, jg_tup (jgs_cons (jgn 5 sc_classes_of.nd) (jgs_cons (jgn 6 sc_classes_of.nd) jgs_nil)),
        js_cons (jset 7 (m := mSg S) (je_of (je_tup (ja_cons (je_ixLF 0 k (jpv 1) (jv 5) rfl (by omega)) (ja1 (je_tupOf (jp_of (je_fz (jo_lc2 8 9 (u := fun i => mInt ((st.getD k []).getD i (0, 0)).1) (v := fun i => mInt ((st.getD k []).getD i (0, 0)).2) (fun i => mPrN ((clB st t).1.getD ((st.getD k []).getD i (0, 0)).1.toNat 0, ((st.getD k []).getD i (0, 0)).2)) (ji_map (f := mPair) (xs := st.getD k []) (0, 0) (.inr rfl) (jv 6) (fun _ _ => rfl)) softA softA
          (fun i hi k2 s H C cl fp => je_tup (ja_cons (je_ixLF 0 ((st.getD k []).getD i (0, 0)).1.toNat (jpv 1) (jv 8) ?_ ?_) (ja1 (jv 9))) (Nat.le_of_ble_eq_true rfl)) (by omega) sc_classes_of.nd))) T.b_tuple))) (Nat.le_of_ble_eq_true rfl)) ?_) sc_classes_of.nd)
        (js_cons (js_if (r := .nx [.val (mL (st.map mItem)), .val (mL ((clB st t).1.map mNat)), .val (mNat (clB st t).2), .own (oN w (kvsN sgKey (putX L S))), .own (oL (((List.range k).map (fdT st (clB st t).1)).map mNat)), .val (mInt (k : Int)), .val (mItem (st.getD k [])), .val (mSg S), .any, .any])
            (jt_nnotin (i := 3) (kvs := kvsN sgKey L) (k := sgKey S) hu (jv 7) keyOf_sg ⟨_, rfl⟩ (by rw [← hL]; rfl) rfl) (fun z => ?_) (fun z => ?_))
        (js_one (js_app 4 (je_nget (i := 3) (r := ((atX L S : Nat) : Int)) hu (jv 7) keyOf_sg ⟨_, rfl⟩ rfl ⟨_, rfl⟩ gp rfl)))), (by repeat (first | exact Le.nil | refine Le.same ?_ | refine Le.drop ?_))⟩
      · have hm := h.k _ hit _ (getD_mem (d := (0, 0)) hi)
        omega
      · have hm := h.k _ hit _ (getD_mem (d := (0, 0)) hi)
        omega
      · subst hS
        rw [range_getD_map (xs := st.getD k []) (d := (0, 0)) (fun p => mPrN ((clB st t).1.getD p.1.toNat 0, p.2))]
        show mT [mNat _, mT _] = mT [mNat _, mT (List.map mPrN (List.map _ _))]
        rw [List.map_map]
        rfl
      · have hno : S ∉ L := by
          rw [gk, Option.isSome_map] at z
          refine posOf_none.mp ?_
          cases q : posOf L S with
          | none => rfl
          | some j => rw [q] at z; cases z
        have gk' : getN (kvsN sgKey L) (sgKey S) = none := by rw [gk, posOf_none.mpr hno]; rfl
        rw [(atX_new hno).1, kvsN_snoc]
        subst hL
        exact js_one (js_nput (i := 3) (kvs := kvsN sgKey (knT st (clB st t).1 k)) (r := ((knT st (clB st t).1 k).length : Int)) hu (je_of (jlenN 3 T.b_len) (by rw [kvsN_length])) (jv 7) keyOf_sg ⟨_, rfl⟩ rfl ⟨_, rfl⟩ gk' (by rw [kvsN_length]; omega) rfl)
      · have hin : S ∈ L := by
          rw [gk, Option.isSome_map] at z
          cases q : posOf L S with
          | none => rw [q] at z; cases z
          | some j => exact List.mem_of_getElem? (posOf_some q).2
        rw [(atX_old hin).1]
        subst hL
        exact js_nil
    · have hcmp : ((kvsN sgKey (knT st (clB st t).1 st.length)).length : Int) = ((clB st (t + 1)).2 : Int) := by rw [kvsN_length]; rfl
      by_cases z : t = N
      · rw [if_pos z]
        subst z
        refine js_weakR (js_rt (js_if (jt_eq (jlenN 3 T.b_len) (jv 2)) (fun _ => js_one (js_ret (jv 1))) fun y => ?_)) (by repeat (first | exact Le.nil | refine Le.same ?_ | refine Le.drop ?_))
        have y := of_decide_eq_false y
        rw [hcmp, hE.e] at y
        exact absurd rfl y
      · rw [if_neg z]
        refine js_weak (js_cons (js_if (jt_eq (jlenN 3 T.b_len) (jv 2)) (fun y => ?_) fun _ => js_nil) (js_one (jset 2 (m := mNat (clB st (t + 1)).2) (je_of (jlenN 3 T.b_len) (by rw [hcmp])) sc_classes_of.nd))) (by repeat (first | exact Le.nil | refine Le.same ?_ | refine Le.drop ?_))
        have y := of_decide_eq_true y
        rw [hcmp] at y
        exact absurd (by omega) (hE.b t (by omega))
  · rw [if_neg (by omega)]
    exact .nx Le.rfl
  · show Leaves (if N = N then _ else _) _
    rw [if_pos rfl]
    exact .rt
end Afw

/-! text D11 -/
set_option Elab.async false
set_option linter.all false
set_option maxRecDepth 100000
set_option maxHeartbeats 4000000
namespace Afw
open PySem L2 PySem.Spec PyProof.Rows Jd
variable {P : Program} {w : World} {K : PySem.W.Frag} {mg : Str → Option Value} {base : Heap}
theorem posOf_map {α β : Type} [DecidableEq α] [DecidableEq β] {f : α → β} (inj : ∀ x y, f x = f y → x = y) {x : α} : ∀ xs : List α, posOf (xs.map f) (f x) = posOf xs x
  | [] => rfl
  | y :: ys => by
    have ih := posOf_map inj (x := x) ys
    unfold posOf at ih ⊢
    rw [List.map_cons, List.findIdx?_cons, List.findIdx?_cons, ih]
    by_cases h : y = x
    · subst h; rw [decide_eq_true rfl, decide_eq_true rfl]
    · rw [decide_eq_false h, decide_eq_false fun z => h (inj _ _ z)]
def kvsNat (xs : List Nat) : List (Int × Int) := kvsI (xs.map fun n : Nat => (n : Int))
theorem kvsNat_snoc {xs : List Nat} {x : Nat} : kvsNat (xs ++ [x]) = kvsNat xs ++ [((x : Int), (xs.length : Int))] := by
  unfold kvsNat
  rw [List.map_append, List.map_singleton, kvsI_snoc, List.length_map]
theorem kvsNat_length {xs : List Nat} : (kvsNat xs).length = xs.length := by unfold kvsNat; rw [kvsI_length, List.length_map]
theorem getI_nat {xs : List Nat} {x : Nat} : getI (kvsNat xs) (x : Int) = (posOf xs x).map fun i : Nat => (i : Int) := by
  unfold kvsNat
  rw [getI_kvs, posOf_map (f := fun n : Nat => (n : Int)) (fun x y h => by exact Int.ofNat.inj h)]
/-! ### least steps -/
def kd (it : List (Int × Int)) (k : Nat) : Nat := (it.getD k (0, 0)).1.toNat
def cf (cls : List Nat) (it : List (Int × Int)) (k : Nat) : Nat := cls.getD (kd it k) 0
def shT (cls : List Nat) (it : List (Int × Int)) (a : List Nat × List Nat) : Nat → List Nat × List Nat
  | 0 => a
  | k + 1 => (putX (shT cls it a k).1 (cf cls it k), if cf cls it k ∈ (shT cls it a k).1 then (shT cls it a k).2 else (shT cls it a k).2 ++ [kd it k])
def itemS (cls : List Nat) (it : List (Int × Int)) (a : List Nat × List Nat) (k : Nat) : Int × Int := ((atX (shT cls it a k).1 (cf cls it k) : Nat), (it.getD k (0, 0)).2)
def shB (st : StT) (cls : List Nat) (c : Nat) : Nat → (List Nat × List Nat) × StT
  | 0 => (([cls.getD 0 0], [0]), [])
  | i + 1 => (shT cls (st.getD ((shB st cls c i).1.2.getD i 0) []) (shB st cls c i).1 c, (shB st cls c i).2 ++ [(List.range c).map (itemS cls (st.getD ((shB st cls c i).1.2.getD i 0) []) (shB st cls c i).1)])
def shStop (st : StT) (cls : List Nat) (c : Nat) : Nat := findT (fun i => decide ((shB st cls c i).1.2.length ≤ i)) st.length
def shrM (st : StT) (cls : List Nat) (c : Nat) : StT := (shB st cls c (shStop st cls c)).2
structure ClsOk (st : StT) (cls : List Nat) : Prop where
  l : cls.length = st.length
  b : ∀ x ∈ cls, x < st.length
structure ShOk (st : StT) (a : List Nat × List Nat) : Prop where
  l : a.2.length = a.1.length
  d : a.1.Nodup
  b : ∀ x ∈ a.1, x < st.length
  k : ∀ x ∈ a.2, x < st.length
theorem kd_lt {st : StT} {c : Nat} (h : StepsOk st c) {it : List (Int × Int)} (hi : it ∈ st) {k : Nat} (hk : k < c) : kd it k < st.length ∧ (it.getD k (0, 0)).1 = ((kd it k : Nat) : Int) := by
  have hl := h.l _ hi
  have := h.k _ hi (it.getD k (0, 0)) (getD_mem (by omega))
  unfold kd
  omega
theorem cf_lt {st : StT} {c : Nat} (h : StepsOk st c) {cls : List Nat} (hc : ClsOk st cls) {it : List (Int × Int)} (hi : it ∈ st) {k : Nat} (hk : k < c) : cf cls it k < st.length := hc.b _ (getD_mem (by rw [hc.l]; exact (kd_lt h hi hk).1))
theorem shT_ok {st : StT} {c : Nat} (h : StepsOk st c) {cls : List Nat} (hc : ClsOk st cls) {it : List (Int × Int)} (hi : it ∈ st) {a : List Nat × List Nat} (ha : ShOk st a) : ∀ k, k ≤ c → ShOk st (shT cls it a k)
  | 0, _ => ha
  | k + 1, hk => by
    have ih := shT_ok h hc hi ha k (by omega)
    refine ⟨?_, putX_nodup ih.d, putX_all ih.b (cf_lt h hc hi (by omega)), ?_⟩
    · show (if cf cls it k ∈ (shT cls it a k).1 then (shT cls it a k).2 else (shT cls it a k).2 ++ [kd it k]).length = (putX (shT cls it a k).1 (cf cls it k)).length
      unfold putX
      split
      · exact ih.l
      · rw [List.length_append, List.length_append, ih.l]; rfl
    · show ∀ x ∈ (if cf cls it k ∈ (shT cls it a k).1 then (shT cls it a k).2 else (shT cls it a k).2 ++ [kd it k]), _
      split
      · exact ih.k
      · intro x hx
        rcases List.mem_append.mp hx with z | z
        · exact ih.k x z
        · rw [List.mem_singleton.mp z]; exact (kd_lt h hi (by omega)).1
theorem shB_ok {st : StT} {c : Nat} (h : StepsOk st c) {cls : List Nat} (hc : ClsOk st cls) : ∀ i, ShOk st (shB st cls c i).1
  | 0 => ⟨rfl, by show [_].Nodup; simp, fun x hx => by
      rw [List.mem_singleton.mp hx]
      exact hc.b _ (getD_mem (by rw [hc.l]; exact h.n.1)), fun x hx => by rw [List.mem_singleton.mp hx]; exact h.n.1⟩
  | i + 1 => by
    have ih := shB_ok h hc i
    refine shT_ok h hc (getD_mem ?_) ih c (Nat.le_refl _)
    by_cases z : i < (shB st cls c i).1.2.length
    · exact ih.k _ (getD_mem z)
    · rw [List.getD_eq_getElem?_getD, List.getElem?_eq_none (Nat.le_of_not_lt z)]
      exact h.n.1
theorem shB_len {st : StT} {c : Nat} (h : StepsOk st c) {cls : List Nat} (hc : ClsOk st cls) (i : Nat) : (shB st cls c i).1.2.length ≤ st.length := by
  have := shB_ok h hc i
  rw [this.l]
  exact nodup_lt _ _ this.d this.b
theorem sh_stop {st : StT} {c : Nat} (h : StepsOk st c) {cls : List Nat} (hc : ClsOk st cls) : shStop st cls c ≤ st.length ∧ (shB st cls c (shStop st cls c)).1.2.length ≤ shStop st cls c ∧ ∀ i, i < shStop st cls c → i < (shB st cls c i).1.2.length := by
  obtain ⟨T, h1, h2, h3⟩ := least_stop (f := fun i => (shB st cls c i).1.2.length) (shB_len h hc st.length)
  have e : shStop st cls c = T := findT_eq h1 (decide_eq_true h2) fun i hi => decide_eq_false (by have := h3 i hi; omega)
  rw [e]
  exact ⟨h1, h2, h3⟩
theorem shB_items {st : StT} {cls : List Nat} {c : Nat} : ∀ i, (shB st cls c i).2.length = i
  | 0 => rfl
  | i + 1 => by
    show ((shB st cls c i).2 ++ [_]).length = _
    rw [List.length_append, shB_items i]
    rfl
theorem shT_mono {cls : List Nat} {it : List (Int × Int)} {a : List Nat × List Nat} {j : Nat} : ∀ {k}, j ≤ k → (shT cls it a j).1.length ≤ (shT cls it a k).1.length
  | 0, h => by rw [Nat.le_zero.mp h]; exact Nat.le_refl _
  | k + 1, h => by
    by_cases z : j = k + 1
    · rw [z]; exact Nat.le_refl _
    · exact Nat.le_trans (shT_mono (by omega)) putX_le
theorem shB_mono {st : StT} {cls : List Nat} {c : Nat} {j : Nat} : ∀ {k}, j ≤ k → (shB st cls c j).1.1.length ≤ (shB st cls c k).1.1.length
  | 0, h => by rw [Nat.le_zero.mp h]; exact Nat.le_refl _
  | k + 1, h => by
    by_cases z : j = k + 1
    · rw [z]; exact Nat.le_refl _
    · exact Nat.le_trans (shB_mono (by omega)) (shT_mono (Nat.zero_le c))
theorem shB_it {st : StT} {cls : List Nat} {c : Nat} : ∀ i, ∀ it ∈ (shB st cls c i).2, it.length = c ∧ ∀ p ∈ it, 0 ≤ p.1 ∧ p.1 < ((shB st cls c i).1.1.length : Int)
  | 0 => fun it h => by cases h
  | i + 1 => fun it h => by
    rcases List.mem_append.mp h with z | z
    · obtain ⟨a, b⟩ := shB_it i it z
      refine ⟨a, fun p hp => ?_⟩
      have := b p hp
      have m := shB_mono (st := st) (cls := cls) (c := c) (j := i) (k := i + 1) (Nat.le_succ i)
      exact ⟨this.1, by omega⟩
    · rw [List.mem_singleton.mp z]
      refine ⟨by simp, fun p hp => ?_⟩
      obtain ⟨k, hk, rfl⟩ := List.mem_map.mp hp
      have hk := List.mem_range.mp hk
      have h1 : atX (shT cls (st.getD ((shB st cls c i).1.2.getD i 0) []) (shB st cls c i).1 k).1 (cf cls (st.getD ((shB st cls c i).1.2.getD i 0) []) k) < (shT cls (st.getD ((shB st cls c i).1.2.getD i 0) []) (shB st cls c i).1 (k + 1)).1.length := atX_lt.1
      have h2 := shT_mono (cls := cls) (it := st.getD ((shB st cls c i).1.2.getD i 0) []) (a := (shB st cls c i).1) (show k + 1 ≤ c by omega)
      refine ⟨?_, ?_⟩
      · show (0 : Int) ≤ ((_ : Nat) : Int); omega
      · show ((_ : Nat) : Int) < ((shT cls (st.getD ((shB st cls c i).1.2.getD i 0) []) (shB st cls c i).1 c).1.length : Int)
        omega
theorem shrM_ok {st : StT} {c : Nat} (h : StepsOk st c) {cls : List Nat} (hc : ClsOk st cls) : StepsOk (shrM st cls c) c := by
  obtain ⟨h1, h2, h3⟩ := sh_stop h hc
  have hl : (shrM st cls c).length = shStop st cls c := shB_items _
  have hn := h.n
  have ho := shB_ok h hc (shStop st cls c)
  refine ⟨⟨?_, by omega⟩, fun it hi => (shB_it _ it hi).1, fun it hi p hp => ?_⟩
  · rw [hl]
    by_cases z : shStop st cls c = 0
    · rw [z] at h2
      have : (1 : Nat) ≤ 0 := h2
      omega
    · omega
  · have := (shB_it _ it hi).2 p hp
    have e := ho.l
    rw [hl]
    exact ⟨this.1, by omega⟩
def clsM (st : StT) : List Nat := (clB st (findT (fun t => decide ((clB st (t + 1)).2 = (clB st t).2)) st.length + 1)).1
theorem clsM_eq {st : StT} {T : Nat} (hT : T ≤ st.length) (h : ClEnd st T) : clsM st = (clB st (T + 1)).1 := by
  unfold clsM
  rw [findT_eq hT (decide_eq_true h.e) fun t ht => decide_eq_false (h.b t ht)]
theorem clsM_ok {st : StT} {c : Nat} (h : StepsOk st c) : ClsOk st (clsM st) := by
  obtain ⟨T, h1, h2⟩ := cl_end h.n.1
  rw [clsM_eq h1 h2]
  exact ⟨clB_len _ _, clB_lt h.n.1 _⟩
abbrev shP (st : StT) (cls : List Nat) (c i : Nat) : List Jd.Slot := [.val (mL (st.map mItem)), .val (mL (cls.map mNat)), .own (oL ((shB st cls c i).1.2.map mNat)), .own (oD (kvsNat (shB st cls c i).1.1)), .own (oL ((shB st cls c i).2.map mItem)), .any, .any, .any]
abbrev shQ (st : StT) (cls : List Nat) (it : List (Int × Int)) (items : StT) (a : List Nat × List Nat) (k : Nat) : List Jd.Slot := [.val (mL (st.map mItem)), .val (mL (cls.map mNat)), .own (oL ((shT cls it a k).2.map mNat)), .own (oD (kvsNat (shT cls it a k).1)), .own (oL (items.map mItem)), .own (oL (((List.range k).map (itemS cls it a)).map mPair)), .any, .any]
abbrev H_shrunk_steps (P : Program) (w : World) (K : PySem.W.Frag) (mg : Str → Option Value) (base : Heap) : Prop := Has P w K mg base 2 "shrunk_steps" ["steps"] (spP (fun p : StT × Nat => StepsOk p.1 p.2 ∧ p.2 ≤ 1000) (fun p => [mL (p.1.map mItem)]) fun p => mL ((shrM p.1 (clsM p.1) p.2).map mItem))
theorem ok_shrunk_steps (T : Tx K mg) (G : H_classes_of P w K mg base) : H_shrunk_steps P w K mg base := by
  obtain ⟨fd, D, B⟩ := T.D_shrunk_steps
  refine ⟨fd, fn_pure D sc_shrunk_steps (fun _ => rfl) (by decide) ?_, B, T.g_shrunk_steps, D.kp⟩
  rintro ⟨st, c⟩ ⟨h, hc⟩ cdv A outer s H E e hr
  dsimp only at h hc ⊢
  have hn := h.n
  obtain ⟨TC, c1, c2⟩ := cl_end hn.1
  have hcl := clsM_ok h
  have eC := clsM_eq c1 c2
  obtain ⟨t1, t2, t3⟩ := sh_stop h hcl
  show ∃ r ss', _ ∧ RetsTo r (mL ((shB st (clsM st) c (shStop st (clsM st) c)).2.map mItem)) ss'
  have hcl1 := hcl.l
  generalize hCL : clsM st = cls at hcl t1 t2 t3 hcl1
  generalize shStop st cls c = N at t1 t2 t3
  have hu : (cxOf CX0 P w K mg base N_shrunk_steps "shrunk_steps" (defScope (top 63)) (He.ga K "shrunk_steps") cdv A outer s H E).nox.A.units + 1 < cLine := room_u hr
  refine ⟨_, _, js_cons (jset 1 (je_callH (i := (st, TC, c)) G hr (by omega) (ja1 (jv 0)) ⟨h, hc, c2⟩ (m := mL (cls.map mNat)) (hm := by rw [← hCL, eC])) sc_shrunk_steps.nd)
    (js_cons (jsetO 2 (jo_lst (ja1 je_int) (Nat.le_of_ble_eq_true rfl)) sc_shrunk_steps.nd)
    (js_cons (jsetO 3 (jo_idisp (i := ((cls.getD 0 0 : Nat) : Int)) (r := 0) (fun kk => je_ixLF 0 0 (jpv 1) je_int rfl (by omega)) (fun kk => je_int)) sc_shrunk_steps.nd)
    (js_cons (jsetO 4 (jo_lst ja_nil (Nat.zero_le _)) sc_shrunk_steps.nd)
    (js_cons (js_while (k := N) (P := shP st cls c) (rs := fun i => .nx (shP st cls c (i + 1))) (last := false) (by repeat (first | exact Le.nil | refine Le.same ?_ | refine Le.drop ?_)) (fun i hi => ?_) ?_ (fun i hi => ?_) (fun h => by cases h) (fun i hi => .nx Le.rfl) (.inl ⟨rfl, rfl⟩) PassesOwn.never)
    (js_one (js_ret (jfz 4))))))), .of rfl⟩
  · refine jt_of (jt_lt (je_lenL (jpo 4) T.b_len) (je_lenL (jpo 2) T.b_len)) ?_
    rw [List.length_map, List.length_map, shB_items]
    exact decide_eq_true (by have := t3 i hi; omega)
  · refine jt_of (jt_lt (je_lenL (jpo 4) T.b_len) (je_lenL (jpo 2) T.b_len)) ?_
    rw [List.length_map, List.length_map, shB_items]
    exact decide_eq_false (by omega)
  · have hi2 : i < (shB st cls c i).1.2.length := t3 i hi
    have hok := shB_ok h hcl i
    have hkn : (shB st cls c i).1.2.getD i 0 < st.length := hok.k _ (getD_mem hi2)
    have hmem := getD_mem (d := []) hkn
    have il : (st.getD ((shB st cls c i).1.2.getD i 0) []).length = c := h.l _ hmem
    show JSs _ _ _ _ (.nx [_, _, .own (oL ((shT cls (st.getD ((shB st cls c i).1.2.getD i 0) []) (shB st cls c i).1 c).2.map mNat)), .own (oD (kvsNat (shT cls (st.getD ((shB st cls c i).1.2.getD i 0) []) (shB st cls c i).1 c).1)), .own (oL (((shB st cls c i).2 ++ [(List.range c).map (itemS cls (st.getD ((shB st cls c i).1.2.getD i 0) []) (shB st cls c i).1)]).map mItem)), _, _, _])
    rw [List.map_append]
    refine js_cons (jsetO 5 (jo_lst ja_nil (Nat.zero_le _)) sc_shrunk_steps.nd)
      (js_cons (js_forN (fun k => shQ st cls (st.getD ((shB st cls c i).1.2.getD i 0) []) (shB st cls c i).2 (shB st cls c i).1 k) (ji_map (f := mPair) (xs := st.getD ((shB st cls c i).1.2.getD i 0) []) (0, 0) (.inr rfl) (je_ixLF (f := mItem) (xs := st) [] ((shB st cls c i).1.2.getD i 0) (jpv 0) (je_ixLF 0 i (jpo 2) (je_lenL (jpo 4) T.b_len) (by rw [List.length_map, shB_items]) hi2) rfl hkn) (g := fun k => mPair ((st.getD ((shB st cls c i).1.2.getD i 0) []).getD k (0, 0))) (fun _ _ => rfl)) (by repeat (first | exact Le.nil | refine Le.same ?_ | refine Le.drop ?_)) (fun k hk => ?_) PassesOwn.never)
      (js_weak (js_one (js_app 4 (je_tupOf (jpo 5) T.b_tuple) (hl := by rw [List.length_map, shB_items]; omega))) (by rw [il]; exact (by repeat (first | exact Le.nil | refine Le.same ?_ | refine Le.drop ?_)))))
    · have hk' : k < c := by omega
      obtain ⟨k1, k2⟩ := kd_lt h hmem hk'
      have sok := shT_ok h hcl hmem hok k (by omega)
      have sln : (shT cls (st.getD ((shB st cls c i).1.2.getD i 0) []) (shB st cls c i).1 k).1.length ≤ st.length := nodup_lt _ _ sok.d sok.b
      have hIL := sok.l
      show ∃ B s, JG _ _ _ _ _ _ ∧ JSs _ _ _ _ _ ∧ Le s [_, _, .own (oL ((if cf cls (st.getD ((shB st cls c i).1.2.getD i 0) []) k ∈ (shT cls (st.getD ((shB st cls c i).1.2.getD i 0) []) (shB st cls c i).1 k).1 then (shT cls (st.getD ((shB st cls c i).1.2.getD i 0) []) (shB st cls c i).1 k).2 else (shT cls (st.getD ((shB st cls c i).1.2.getD i 0) []) (shB st cls c i).1 k).2 ++ [kd (st.getD ((shB st cls c i).1.2.getD i 0) []) k]).map mNat)), .own (oD (kvsNat (putX (shT cls (st.getD ((shB st cls c i).1.2.getD i 0) []) (shB st cls c i).1 k).1 (cf cls (st.getD ((shB st cls c i).1.2.getD i 0) []) k)))), _, .own (oL (((List.range (k + 1)).map (itemS cls (st.getD ((shB st cls c i).1.2.getD i 0) []) (shB st cls c i).1)).map mPair)), _, _]
      rw [range_map_succ, List.map_append]
      generalize hit : st.getD ((shB st cls c i).1.2.getD i 0) [] = it at *
      have eI : mPair (itemS cls it (shB st cls c i).1 k) = mT [mNat (atX (shT cls it (shB st cls c i).1 k).1 (cf cls it k)), mInt (it.getD k (0, 0)).2] := rfl
      show ∃ B s, JG _ _ _ _ _ _ ∧ JSs _ _ _ _ _ ∧ Le s [_, _, _, _, _, .own (oL (_ ++ [mPair (itemS cls it (shB st cls c i).1 k)])), _, _]
      rw [eI]
      generalize hL : shT cls it (shB st cls c i).1 k = L at *
      have gk : getI (kvsNat L.1) ((cf cls it k : Nat) : Int) = (posOf L.1 (cf cls it k)).map fun i : Nat => (i : Int) := getI_nat
      have gp : getI (kvsNat (putX L.1 (cf cls it k))) ((cf cls it k : Nat) : Int) = some ((atX L.1 (cf cls it k) : Nat) : Int) := by
        rw [getI_nat, posOf_put]
        rfl
      refine ⟨_, _, jg_tup (jgs_cons (jgn 6 sc_shrunk_steps.nd) (jgs_cons (jgn 7 sc_shrunk_steps.nd) jgs_nil)),
        js_cons (js_if (r := .nx [.val (mL (st.map mItem)), .val (mL (cls.map mNat)), .own (oL ((if cf cls it k ∈ L.1 then L.2 else L.2 ++ [kd it k]).map mNat)), .own (oD (kvsNat (putX L.1 (cf cls it k)))), .own (oL ((shB st cls c i).2.map mItem)), .own (oL (((List.range k).map (itemS cls it (shB st cls c i).1)).map mPair)), .val (mInt (it.getD k (0, 0)).1), .val (mInt (it.getD k (0, 0)).2)])
            (jt_inotin (s := 3) (i := ((cf cls it k : Nat) : Int)) (kvs := kvsNat L.1) hu (je_ixLF 0 (kd it k) (jpv 1) (jv 6) k2 (by omega)) (by rw [← hL]; rfl) rfl) (fun z => ?_) (fun z => ?_))
        (js_one (js_app 5 (je_tup (ja_cons (je_iget (s := 3) (i := ((cf cls it k : Nat) : Int)) (r := ((atX L.1 (cf cls it k) : Nat) : Int)) hu (je_ixLF 0 (kd it k) (jpv 1) (jv 6) k2 (by omega)) rfl ⟨_, rfl⟩ gp rfl) (ja1 (jv 7))) (Nat.le_of_ble_eq_true rfl)))), (by repeat (first | exact Le.nil | refine Le.same ?_ | refine Le.drop ?_))⟩
      · have hno : cf cls it k ∉ L.1 := by
          rw [gk, Option.isSome_map] at z
          refine posOf_none.mp ?_
          cases q : posOf L.1 (cf cls it k) with
          | none => rfl
          | some j => rw [q] at z; cases z
        have gk' : getI (kvsNat L.1) ((cf cls it k : Nat) : Int) = none := by rw [gk, posOf_none.mpr hno]; rfl
        rw [(atX_new hno).1, if_neg hno, kvsNat_snoc, List.map_append]
        subst hL
        exact js_cons (js_iput (s := 3) (i := ((cf cls it k : Nat) : Int)) (kvs := kvsNat (shT cls it (shB st cls c i).1 k).1) (r := ((shT cls it (shB st cls c i).1 k).1.length : Int)) hu (je_of (je_lenL (jpo 2) T.b_len) (by rw [List.length_map, hIL])) (je_ixLF 0 (kd it k) (jpv 1) (jv 6) k2 (by omega)) rfl ⟨_, rfl⟩ gk' (by rw [kvsNat_length]; omega) rfl)
          (js_one (js_app 2 (je_of (jv 6) (show mInt (it.getD k (0, 0)).1 = mNat (kd it k) by rw [k2])) (hl := by rw [List.length_map]; omega)))
      · have hin : cf cls it k ∈ L.1 := by
          rw [gk, Option.isSome_map] at z
          cases q : posOf L.1 (cf cls it k) with
          | none => rw [q] at z; cases z
          | some j => exact List.mem_of_getElem? (posOf_some q).2
        rw [(atX_old hin).1, if_pos hin]
        subst hL
        exact js_nil
end Afw

/-! text D12 -/
set_option Elab.async false
set_option linter.all false
set_option maxRecDepth 100000
set_option maxHeartbeats 4000000
namespace Afw
open PySem L2 PySem.Spec PyProof.Rows Jd
variable {P : Program} {w : World} {K : PySem.W.Frag} {mg : Str → Option Value} {base : Heap}
theorem stB_it {d : StD} : ∀ i, ∀ it ∈ (stB d i).2, it.length = d.asks.length ∧ ∀ p ∈ it, 0 ≤ p.1 ∧ p.1 < ((stB d i).1.length : Int)
  | 0 => fun it h => by cases h
  | i + 1 => fun it h => by
    rcases List.mem_append.mp h with z | z
    · obtain ⟨a, b⟩ := stB_it i it z
      refine ⟨a, fun p hp => ?_⟩
      have := b p hp
      have m := stB_mono (d := d) (i := i) (j := i + 1) (Nat.le_succ i)
      exact ⟨this.1, by omega⟩
    · rw [List.mem_singleton.mp z]
      refine ⟨by simp, fun p hp => ?_⟩
      obtain ⟨k, hk, rfl⟩ := List.mem_map.mp hp
      have hk := List.mem_range.mp hk
      have h1 : atX (lotsT d ((stB d i).1.getD i []) (stB d i).1 k) (lotK d ((stB d i).1.getD i []) k) < (lotsT d ((stB d i).1.getD i []) (stB d i).1 (k + 1)).length := atX_lt.1
      have h2 := lotsT_mono (d := d) (lot := (stB d i).1.getD i []) (lots := (stB d i).1) (show k + 1 ≤ d.asks.length by omega)
      refine ⟨?_, ?_⟩
      · show (0 : Int) ≤ ((_ : Nat) : Int); omega
      · show ((_ : Nat) : Int) < ((lotsT d ((stB d i).1.getD i []) (stB d i).1 d.asks.length).length : Int)
        omega
def smC (d : StD) (T : Nat) : List Int := (stB d T).1.map fun l => minL (addM l d.ends)
def smIt (cz : List Int) (k : Nat) (it : List (Int × Int)) : List (Int × Int) := it.map fun p => (p.1, p.2 + cz.getD p.1.toNat 0 - cz.getD k 0)
def smI (d : StD) (T : Nat) : StT := (List.range T).map fun k => smIt (smC d T) k ((stB d T).2.getD k [])
def smF (d : StD) (T : Nat) : Int := minL d.begins + (smC d T).getD 0 0
theorem smI_ok {d : StD} {T : Nat} (hE : StEnd d T) (hT : T ≤ 900) : StepsOk (smI d T) d.asks.length := by
  have hl : (smI d T).length = T := by unfold smI; simp
  have h1 : 1 ≤ T := by
    by_cases z : T = 0
    · have := hE.e
      rw [z] at this
      have : (1 : Nat) = 0 := this
      omega
    · omega
  refine ⟨by omega, fun it hit => ?_, fun it hit p hp => ?_⟩
  · obtain ⟨k, hk, rfl⟩ := List.mem_map.mp hit
    have hk := List.mem_range.mp hk
    unfold smIt
    rw [List.length_map]
    exact (stB_it T _ (getD_mem (by rw [stB_steps]; exact hk))).1
  · obtain ⟨k, hk, rfl⟩ := List.mem_map.mp hit
    have hk := List.mem_range.mp hk
    obtain ⟨q, hq, rfl⟩ := List.mem_map.mp hp
    have := (stB_it T _ (getD_mem (d := []) (by rw [stB_steps]; exact hk))).2 q hq
    rw [hE.e] at this
    rw [hl]
    exact this
abbrev H_standing_steps (P : Program) (w : World) (K : PySem.W.Frag) (mg : Str → Option Value) (base : Heap) : Prop := Has P w K mg base 4 "standing_steps" ["store"] (spP (fun p : StD × Nat => StOk p.1 ∧ StEnd p.1 p.2 ∧ p.2 ≤ 900) (fun p => [mStore K p.1])
  fun p => mT [mInt (smF p.1 p.2), mL ((smI p.1 p.2).map mItem)])
theorem ok_standing_steps (T : Tx K mg) (G1 : H_standings P w K mg base) (G2 : H_added P w K mg base) : H_standing_steps P w K mg base := by
  obtain ⟨fd, D, B⟩ := T.D_standing_steps
  refine ⟨fd, fn_pure D sc_standing_steps (fun _ => rfl) (by decide) ?_, B, T.g_standing_steps, D.kp⟩
  rintro ⟨d, N⟩ ⟨hd, hE, hN⟩ cdv A outer s H E e hr
  dsimp only at hd hE hN ⊢
  have hs := askOk_size hd.a
  have hn := hd.n
  have he := hd.e
  have hall := stB_all N hE.b N (Nat.le_refl _)
  have hlc : (smC d N).length = N := by unfold smC; rw [List.length_map, hE.e]
  have hls := stB_steps (d := d) N
  have hN1 : 1 ≤ N := by have := (smI_ok hE hN).n; unfold smI at this; simpa using this.1
  refine ⟨_, _, js_cons (jset 1 (je_callH (i := (d, N)) G1 hr (by omega) (ja1 (jv 0)) ⟨hd, hE, hN⟩) sc_standing_steps.nd)
    (js_cons (jsetO 2 (jo_lc1 (jx := 6) (fun i => mInt (minL (addM ((stB d N).1.getD i []) d.ends))) (ji_map (f := mNs) (xs := (stB d N).1) [] (.inr rfl) (je_fld (jv 1) rfl T.c_Standings T.n_Standings_lots) (g := fun i => mNs ((stB d N).1.getD i [])) (fun _ _ => rfl)) softA
      (fun i hi k s H C cl fp => je_min (jp_of (je_callH (i := ((stB d N).1.getD i [], d.ends)) G2 hr (by omega) (ja_cons (jv 6) (ja1 (je_fld (jv 0) rfl T.c_Store T.n_Store_ends))) ?_)) ?_ T.b_min) (by rw [hE.e]; omega) sc_standing_steps.nd) sc_standing_steps.nd)
    (js_cons (jsetO 3 (jo_lst ja_nil (Nat.zero_le _)) sc_standing_steps.nd)
    (js_cons (js_forN (fun k => [.val (mStore K d), .val (mI (He.ga K "Standings") [("lots", mT ((stB d N).1.map mNs)), ("rows", mT (rowsM (stB d N).1.length)), ("steps", mSteps (stB d N).2)]), .own (oL ((smC d N).map mInt)), .own (oL (((List.range k).map fun k => smIt (smC d N) k ((stB d N).2.getD k [])).map mItem)), .any, .any, .any, .any, .any])
      (ji_enum (f := mItem) (xs := (stB d N).2) [] (.inr rfl) (je_fld (jv 1) rfl T.c_Standings T.n_Standings_steps) T.b_enumerate (g := fun i => mItem ((stB d N).2.getD i [])) (fun _ _ => rfl)) ?_ (fun k hk => ⟨_, _, jg_tup (jgs_cons (jgn 4 sc_standing_steps.nd) (jgs_cons (jgn 5 sc_standing_steps.nd) jgs_nil)),
        js_one (js_app 3 (m := mItem (smIt (smC d N) k ((stB d N).2.getD k []))) (je_of (je_tupOf (jp_of (je_fz (jo_lc2 7 8 (u := fun i => mInt (((stB d N).2.getD k []).getD i (0, 0)).1) (v := fun i => mInt (((stB d N).2.getD k []).getD i (0, 0)).2) (fun i => mPair ((((stB d N).2.getD k []).getD i (0, 0)).1, (((stB d N).2.getD k []).getD i (0, 0)).2 + (smC d N).getD (((stB d N).2.getD k []).getD i (0, 0)).1.toNat 0 - (smC d N).getD k 0)) (ji_map (f := mPair) (xs := (stB d N).2.getD k []) (0, 0) (.inr rfl) (jv 5) (fun _ _ => rfl)) softA softA
          (fun i hi k2 s H C cl fp => je_tup (ja_cons (jv 7) (ja1 (je_sub (je_add (jv 8) (je_ixLF (f := mInt) (xs := smC d N) 0 (((stB d N).2.getD k []).getD i (0, 0)).1.toNat (jpo 2) (jv 7) ?_ ?_)) (je_ixLF (f := mInt) (xs := smC d N) 0 k (jpo 2) (jv 4) rfl (by omega))))) (Nat.le_of_ble_eq_true rfl)) ?_ sc_standing_steps.nd))) T.b_tuple) ?_) (hl := by simp; omega)), ?_⟩) PassesOwn.never)
    (js_one (js_ret (je_tup (ja_cons (je_add (je_minSq (.inr rfl) (je_fld (jv 0) rfl T.c_Store T.n_Store_begins) (room_u hr) (fun h => by rw [h] at hn; simp at hn) T.b_min) (je_ixLF (f := mInt) (xs := smC d N) 0 0 (jpo 2) je_int rfl (by omega))) (ja1 (jfz 3))) (Nat.le_of_ble_eq_true rfl))))))), .of ?_⟩
  · have := hall _ (getD_mem (d := []) hi)
    exact ⟨by show ((stB d N).1.getD i []).length = d.ends.length; omega, by show ((stB d N).1.getD i []).length ≤ 1000; omega⟩
  · intro hz
    have := congrArg List.length hz
    unfold addM at this
    have h2 := hall _ (getD_mem (d := []) hi)
    simp only [List.length_map, List.length_range, List.length_nil] at this
    omega
  · have e : (List.range (stB d N).1.length).map (fun i => mInt (minL (addM ((stB d N).1.getD i []) d.ends))) = (smC d N).map mInt := by
      rw [range_getD_map (d := []) (fun l => mInt (minL (addM l d.ends)))]
      unfold smC
      rw [List.map_map]
      rfl
    rw [e]
    exact (by repeat (first | exact Le.nil | refine Le.same ?_ | refine Le.drop ?_))
  · have := (stB_it N _ (getD_mem (d := []) hk)).2 _ (getD_mem (d := (0, 0)) hi)
    omega
  · have := (stB_it N _ (getD_mem (d := []) hk)).2 _ (getD_mem (d := (0, 0)) hi)
    have h2 := hE.e
    omega
  · have := (stB_it N _ (getD_mem (d := []) hk)).1
    omega
  · rw [range_getD_map (d := (0, 0)) (fun p => mPair (p.1, p.2 + (smC d N).getD p.1.toNat 0 - (smC d N).getD k 0))]
    show mT _ = mT (List.map mPair (List.map _ _))
    rw [List.map_map]
    rfl
  · rw [range_map_succ, List.map_append]
    exact (by repeat (first | exact Le.nil | refine Le.same ?_ | refine Le.drop ?_))
  · rw [hls]
    rfl
def machM (d : StD) (T : Nat) : StT := shrM (smI d T) (clsM (smI d T)) d.asks.length
abbrev mMach (K : PySem.W.Frag) (asks : Str) (first : Int) (st : StT) : Mp := mI (He.ga K "Machine") (MachM asks first st)
abbrev H_least_machine (P : Program) (w : World) (K : PySem.W.Frag) (mg : Str → Option Value) (base : Heap) : Prop := Has P w K mg base 9 "least_machine" ["teller"] (spP (fun p : StD × Nat => StOk p.1 ∧ StEnd p.1 p.2 ∧ p.2 ≤ 900) (fun p => [mStore K p.1])
  fun p => mMach K p.1.asks (smF p.1 p.2) (machM p.1 p.2))
theorem ok_least_machine (T : Tx K mg) (hI : IsiC K (He.ga K "Store")) (G1 : H_standing_steps P w K mg base) (G2 : H_shrunk_steps P w K mg base) (G3 : H_Machine P w K mg base) : H_least_machine P w K mg base := by
  obtain ⟨fd, D, B⟩ := T.D_least_machine
  refine ⟨fd, fn_pure D sc_least_machine (fun _ => rfl) (by decide) ?_, B, T.g_least_machine, D.kp⟩
  rintro ⟨d, N⟩ ⟨hd, hE, hN⟩ cdv A outer s H E e hr
  dsimp only at hd hE hN ⊢
  have ok := smI_ok hE hN
  have hs := askOk_size hd.a
  exact ⟨_, _, js_rt (js_if (jt_val (je_isiC hI (jv 0) T.b_isinstance T.g_Store)) (fun _ => js_cons (js_asg (je_callH (i := (d, N)) G1 hr (by omega) (ja1 (jv 0)) ⟨hd, hE, hN⟩) (jg_tup (jgs_cons (jgn 1 sc_least_machine.nd) (jgs_cons (jgn 2 sc_least_machine.nd) jgs_nil))))
    (js_one (js_ret (je_fzI (jo_makeH (i := (d.asks, smF d N, machM d N)) G3 hr (by omega) (ja_cons (je_fld (jv 0) rfl T.c_Store T.n_Store_asks) (ja_cons (jv 1) (ja1 (je_callH (i := (smI d N, d.asks.length)) G2 hr (by omega) (ja1 (jv 2)) ⟨ok, by show d.asks.length ≤ 1000; omega⟩)))) ⟨hd.a, shrM_ok ok (clsM_ok ok)⟩))))) fun z => by cases z), .of rfl⟩
end Afw

/-! text D13 -/
set_option Elab.async false
set_option linter.all false
set_option maxRecDepth 100000
set_option maxHeartbeats 4000000
namespace Afw
open PySem L2 PySem.Spec PyProof.Rows Jd
variable {P : Program} {w : World} {K : PySem.W.Frag} {mg : Str → Option Value} {base : Heap}
/-! ### spots -/
structure Cl where
  asks : Str
  ms : List (Int × StT)
  fs : List Int
  cs : List Int
  gs : List (List (Option Int))
structure ClOk (c : Cl) : Prop where
  a : askOk c.asks = true
  m : 1 ≤ c.ms.length ∧ c.ms.length ≤ 100
  st : ∀ m ∈ c.ms, StepsOk m.2 c.asks.length
  f : c.fs.length = c.ms.length
  fb : ∀ f ∈ c.fs, -(2 ^ 64) < f ∧ f < 2 ^ 64
  cl : c.cs.length = c.asks.length
  g : GateOk c.asks c.gs
structure SpotOk (c : Cl) (sp : List Int) : Prop where
  l : sp.length = c.ms.length + 1
  k : ∀ j, j < c.ms.length → 0 ≤ sp.getD j 0 ∧ (sp.getD j 0).toNat < (c.ms.getD j (0, [])).2.length
  g : 0 ≤ sp.getD c.ms.length 0 ∧ (sp.getD c.ms.length 0).toNat < c.gs.length
def doorAt (c : Cl) (sp : List Int) (k : Nat) : Option Int := (c.gs.getD (sp.getD c.ms.length 0).toNat []).getD k none
def stepAt (c : Cl) (sp : List Int) (k j : Nat) : Int × Int := ((c.ms.getD j (0, [])).2.getD (sp.getD j 0).toNat []).getD k (0, 0)
def kindsAt (c : Cl) (sp : List Int) (k : Nat) : List Int := (List.range c.ms.length).map fun j => (stepAt c sp k j).1
def gainT (c : Cl) (sp : List Int) (k : Nat) : Nat → Int
  | 0 => c.cs.getD k 0
  | j + 1 => gainT c sp k j + c.fs.getD j 0 * (stepAt c sp k j).2
def mvAt (c : Cl) (sp : List Int) (k : Nat) : List (Nat × List Int × Int) := match doorAt c sp k with
  | none => []
  | some pl => [(k, kindsAt c sp k ++ [pl], gainT c sp k c.ms.length)]
def movesT (c : Cl) (sp : List Int) : Nat → List (Nat × List Int × Int)
  | 0 => []
  | k + 1 => movesT c sp k ++ mvAt c sp k
abbrev mMv (m : Nat × List Int × Int) : Mp := mT [mNat m.1, mNs m.2.1, mInt m.2.2]
abbrev mMs (K : PySem.W.Frag) (c : Cl) : Mp := mL (c.ms.map fun m => mMach K c.asks m.1 m.2)
abbrev mWt (c : Cl) : Mp := mT [mNs c.fs, mNs c.cs]
theorem movesT_len (c : Cl) (sp : List Int) : ∀ k, (movesT c sp k).length ≤ k
  | 0 => Nat.le_refl _
  | k + 1 => by
    have ih := movesT_len c sp k
    show (movesT c sp k ++ mvAt c sp k).length ≤ _
    rw [List.length_append]
    unfold mvAt
    split
    · simp; omega
    · simp; omega
abbrev smP (K : PySem.W.Frag) (c : Cl) (sp : List Int) (k : Nat) : List Jd.Slot := [.val (mMs K c), .val (mWt c), .val (gItems c.gs), .val (mNs sp), .val (mNs c.fs), .val (mNs c.cs), .own (oL ((movesT c sp k).map mMv)), .any, .any, .any, .any, .any, .any, .any, .any]
abbrev H_spot_moves (P : Program) (w : World) (K : PySem.W.Frag) (mg : Str → Option Value) (base : Heap) : Prop := Has P w K mg base 1 "spot_moves" ["machines", "weights", "steps", "spot"] (spP (fun p : Cl × List Int => ClOk p.1 ∧ SpotOk p.1 p.2) (fun p => [mMs K p.1, mWt p.1, gItems p.1.gs, mNs p.2])
  fun p => mL ((movesT p.1 p.2 p.1.asks.length).map mMv))
theorem ok_spot_moves (T : Tx K mg) : H_spot_moves P w K mg base := by
  obtain ⟨fd, D, B⟩ := T.D_spot_moves
  refine ⟨fd, fn_pure D sc_spot_moves (fun _ => rfl) (by decide) ?_, B, T.g_spot_moves, D.kp⟩
  rintro ⟨c, sp⟩ ⟨hc, hsp⟩ cdv A outer s H E e hr
  dsimp only at hc hsp ⊢
  have hs := askOk_size hc.a
  have hm := hc.m
  have hf := hc.f
  have hcc := hc.cl
  have hl := hsp.l
  refine ⟨_, _, js_cons (js_asg (jv 1) (jg_tup (jgs_cons (jgn 4 sc_spot_moves.nd) (jgs_cons (jgn 5 sc_spot_moves.nd) jgs_nil))))
    (js_cons (jsetO 6 (jo_lst ja_nil (Nat.zero_le _)) sc_spot_moves.nd)
    (js_cons (js_forN (fun k => smP K c sp k) (ji_range1 (je_of (je_lenT (jv 5) T.b_len) (by rw [List.length_map])) (by omega) (by omega) T.b_range) (by repeat (first | exact Le.nil | refine Le.same ?_ | refine Le.drop ?_)) (fun k hk => ?_) PassesOwn.never)
    (js_one (js_ret (jfz 6))))), .of ?_⟩
  · have hk : k < c.asks.length := by omega
    have hg := hc.g.i _ (getD_mem (d := []) hsp.g.2)
    have ml := movesT_len c sp k
    have dl : (c.gs.getD (sp.getD c.ms.length 0).toNat []).length = c.asks.length := by omega
    show ∃ B s, JG _ _ _ _ _ _ ∧ JSs _ _ _ _ _ ∧ Le s [_, _, _, _, _, _, .own (oL ((movesT c sp k ++ mvAt c sp k).map mMv)), _, _, _, _, _, _, _, _]
    refine ⟨_, [.val (mMs K c), .val (mWt c), .val (gItems c.gs), .val (mNs sp), .val (mNs c.fs), .val (mNs c.cs), .own (oL ((movesT c sp k ++ mvAt c sp k).map mMv)), .any, .any, .any, .any, .any, .any, .any, .any], jgn 7 sc_spot_moves.nd,
      js_cons (jset 8 (m := mOpt (doorAt c sp k)) (je_ixF (f := mOpt) (xs := c.gs.getD (sp.getD c.ms.length 0).toNat []) none k (je_ixF (f := fun os => mT (os.map mOpt)) (xs := c.gs) [] (sp.getD c.ms.length 0).toNat (jv 2) (je_ixT (i := -1) (m := mInt (sp.getD c.ms.length 0)) (jv 3) (je_neg je_int) ?_) (by have := hsp.g.1; omega) hsp.g.2) (jv 7) rfl (by omega)) sc_spot_moves.nd) ?_, (by repeat (first | exact Le.nil | refine Le.same ?_ | refine Le.drop ?_))⟩
    · have e : (sp.map mInt).length = c.ms.length + 1 := by rw [List.length_map, hl]
      show (ixN (sp.map mInt).length (-1)).bind (fun j => (sp.map mInt)[j]?) = _
      have e2 : ixN (sp.map mInt).length (-1) = some c.ms.length := by
        rw [e]
        unfold ixN
        simp
        omega
      rw [e2]
      show (sp.map mInt)[c.ms.length]? = _
      rw [List.getElem?_map, getD_some (d := 0) (by omega)]
      rfl
    · unfold mvAt
      cases doorAt c sp k with
      | none =>
        exact js_weak (js_one (js_if (t := !true) (jt_notN (jv 8) nonB_none) (fun z => by cases z) fun _ => js_nil)) (by
          rw [List.append_nil]
          exact (by repeat (first | exact Le.nil | refine Le.same ?_ | refine Le.drop ?_)))
      | some pl =>
        have rw1 : ∀ j, j < c.ms.length → (stepAt c sp k j) = (((c.ms.getD j (0, [])).2.getD (sp.getD j 0).toNat []).getD k (0, 0)) := fun _ _ => rfl
        refine js_weak (js_one (js_if (t := !false) (jt_notN (jv 8) nonB_int) (fun _ => js_cons (jset 9 (je_ixNs k (jv 5) (jv 7) rfl (by omega)) sc_spot_moves.nd) (js_cons (jsetO 10 (jo_lst ja_nil (Nat.zero_le _)) sc_spot_moves.nd)
          (js_cons (js_forN (fun j => [.val (mMs K c), .val (mWt c), .val (gItems c.gs), .val (mNs sp), .val (mNs c.fs), .val (mNs c.cs), .own (oL ((movesT c sp k).map mMv)), .val (mNat k), .val (mInt pl), .val (mInt (gainT c sp k j)), .own (oL (((List.range j).map fun j => (stepAt c sp k j).1).map mInt)), .any, .any, .any, .any])
            (ji_congr (N' := c.ms.length) (ys' := fun j => mT [mMach K c.asks (c.ms.getD j (0, [])).1 (c.ms.getD j (0, [])).2, mInt (c.fs.getD j 0), mInt (sp.getD j 0)]) (pi_zip3J (rJ_list (jv 0)) (rJ_tup (jv 4)) (rJ_tup (jv 3)) T.b_zip) ?_ ?_) (by repeat (first | exact Le.nil | refine Le.same ?_ | refine Le.drop ?_)) (fun j hj => ?_) PassesOwn.never)
          (js_cons (js_app 10 (jv 8) (hl := by simp; omega))
          (js_one (js_app 6 (m := mMv (k, kindsAt c sp k ++ [pl], gainT c sp k c.ms.length)) (je_of (je_tup (ja_cons (jv 7) (ja_cons (je_tupOf (jpo 10) T.b_tuple) (ja1 (jv 9)))) (Nat.le_of_ble_eq_true rfl)) ?_) (hl := by rw [List.length_map]; omega))))))) fun z => by cases z)) ?_
        · intro j hj
          rw [List.length_map, List.length_map, List.length_map] at hj
          rw [getD_map (d := (0, [])) (by omega), getD_map (d := 0) (by omega), getD_map (d := 0) (by omega)]
        · rw [List.length_map, List.length_map, List.length_map]; omega
        · have sj := hsp.k j hj
          have hst := hc.st _ (getD_mem (d := (0, [])) hj)
          have hil : ((c.ms.getD j (0, [])).2.getD (sp.getD j 0).toNat []).length = c.asks.length := hst.l _ (getD_mem sj.2)
          have hfb := hc.fb _ (getD_mem (d := 0) (show j < c.fs.length by omega))
          refine ⟨_, _, jg_tup (jgs_cons (jgn 11 sc_spot_moves.nd) (jgs_cons (jgn 12 sc_spot_moves.nd) (jgs_cons (jgn 13 sc_spot_moves.nd) jgs_nil))),
            js_cons (jset 14 (m := mPair (stepAt c sp k j)) (je_ixF (f := mPair) (xs := (c.ms.getD j (0, [])).2.getD (sp.getD j 0).toNat []) (0, 0) k (je_ixF (f := mItem) (xs := (c.ms.getD j (0, [])).2) [] (sp.getD j 0).toNat (je_fld (jv 11) rfl T.c_Machine T.n_Machine_steps) (jv 13) (by omega) sj.2) (jv 7) rfl (by omega)) sc_spot_moves.nd)
            (js_cons (js_app 10 (je_ixT (ms := [mInt (stepAt c sp k j).1, mInt (stepAt c sp k j).2]) (i := 0) (m := mInt (stepAt c sp k j).1) (jv 14) je_int rfl) (hl := by simp; omega))
            (js_one (jset 9 (je_add (jv 9) (je_mul (jv 12) (je_ixT (ms := [mInt (stepAt c sp k j).1, mInt (stepAt c sp k j).2]) (i := 1) (m := mInt (stepAt c sp k j).2) (jv 14) je_int rfl) (.inl hfb))) sc_spot_moves.nd))), ?_⟩
          rw [range_map_succ, List.map_append]
          exact (by repeat (first | exact Le.nil | refine Le.same ?_ | refine Le.drop ?_))
        · show mT [_, mT _, _] = mT [_, mT (List.map mInt (List.map _ _ ++ _)), _]
          rw [List.map_append]
          rfl
        · rw [List.map_append]
          exact (by repeat (first | exact Le.nil | refine Le.same ?_ | refine Le.drop ?_))
  · rw [Int.toNat_natCast, hcc]
end Afw

/-! text D14 -/
set_option Elab.async false
set_option linter.all false
set_option maxRecDepth 100000
set_option maxHeartbeats 4000000
namespace Jd
open PySem L2 PySem.Spec PyProof.Rows
/-- the same with defaults behind -/
def HasD (P : Program) (w : World) (K : PySem.W.Frag) (mg : Str → Option Value) (base : Heap) (k : Nat) (nm : Str) (ps : List Str) (sp : Sp) (dvs : List V) : Prop :=
  ∃ fd ds, FnOk P w K mg base CX0 k (He.ga K nm) fd ps sp ∧ Vals dvs ds ∧ Binds K fd ps ds ∧ mg nm = some (.ref (He.ga K nm)) ∧ PySem.W.keepIn K (.ref (He.ga K nm)) = true
section
variable {X : Cx} {e : En} {ss ss1 : List Slot} {x : Expr} {pos p : Pos} {ms : List Mp} {k k' : Nat} {ps : List Str} {ι : Type} {pre : ι → Prop} {ins : ι → List Mp} {out : ι → Mp} {nm : Str} {es : List Expr}
theorem je_callHD {i : ι} {dvs : List V} {msd : List Mp} (G : HasD X.prog X.w X.K X.mg X.base k nm ps (spP pre ins out) dvs) (hdp : ∀ F, allP F msd dvs) (hr : Room k' X.A) (hk : k ≤ k') (ha : JA X e (x :: es) ss ms ss1) (hp : pre i) {m : Mp} (hi : ins i = ms ++ msd := by rfl) (hm : out i = m := by rfl) (hg : Gl X nm := by rfl) (hdb : (nm == ("__debug__" : Str)) = false := by decide)
    (he : starEach (x :: es) X.env = (false, eval x X.env) :: starEach es X.env := by rfl) (hpl : (backTo pos (starEach es X.env)).any (·.1) = false := by rfl) : JE X e (.Call (.Name nm p) (x :: es) [] pos) ss m ss1 := by
  obtain ⟨fd, ds, G, V, B, hm', kp⟩ := G
  subst hm
  exact je_call (msd := msd) G (hr.mono hk) hm' kp B V hdp ha hi hp hg hdb he hpl
end
end Jd
namespace Afw
open PySem L2 PySem.Spec PyProof.Rows Jd
variable {P : Program} {w : World} {K : PySem.W.Frag} {mg : Str → Option Value} {base : Heap}
abbrev Mv := Nat × List Int × Int
def nodesF (ns : List (List Int)) (mv : List Mv) : List (List Int) := mv.foldl (fun ns m => putX ns m.2.1) ns
def itF : List (List Int) → List Mv → List (Nat × Nat × Int)
  | _, [] => []
  | ns, m :: r => (m.1, atX ns m.2.1, m.2.2) :: itF (putX ns m.2.1) r
def sp0 (c : Cl) : List Int := List.replicate (c.ms.length + 1) 0
def spB (c : Cl) : Nat → List (List Int) × List (List (Nat × Nat × Int))
  | 0 => ([sp0 c], [])
  | i + 1 => (nodesF (spB c i).1 (movesT c ((spB c i).1.getD i []) c.asks.length), (spB c i).2 ++ [itF (spB c i).1 (movesT c ((spB c i).1.getD i []) c.asks.length)])
structure SpEnd (c : Cl) (T : Nat) : Prop where
  e : (spB c T).1.length = T
  b : ∀ i, i < T → i < (spB c i).1.length
theorem nodesF_le : ∀ (mv : List Mv) (ns : List (List Int)), ns.length ≤ (nodesF ns mv).length
  | [], ns => Nat.le_refl _
  | m :: r, ns => Nat.le_trans putX_le (nodesF_le r (putX ns m.2.1))
theorem nodesF_all {p : List Int → Prop} : ∀ (mv : List Mv) (ns : List (List Int)), (∀ n ∈ ns, p n) → (∀ m ∈ mv, p m.2.1) → ∀ n ∈ nodesF ns mv, p n
  | [], ns, h, _ => h
  | m :: r, ns, h, hm => nodesF_all r (putX ns m.2.1) (putX_all h (hm m List.mem_cons_self)) fun x hx => hm x (List.mem_cons_of_mem _ hx)
theorem nodesF_snoc {ns : List (List Int)} {mv : List Mv} {m : Mv} : nodesF ns (mv ++ [m]) = putX (nodesF ns mv) m.2.1 := by
  unfold nodesF
  rw [List.foldl_append]
  rfl
theorem spB_mono {c : Cl} {i j : Nat} (h : i ≤ j) : (spB c i).1.length ≤ (spB c j).1.length := by
  induction j with
  | zero => rw [Nat.le_zero.mp h]; exact Nat.le_refl _
  | succ j ih =>
    by_cases z : i = j + 1
    · rw [z]; exact Nat.le_refl _
    · exact Nat.le_trans (ih (by omega)) (nodesF_le _ _)
theorem sp0_ok {c : Cl} (h : ClOk c) : SpotOk c (sp0 c) := by
  have z : ∀ j, (sp0 c).getD j 0 = 0 := fun j => by
    unfold sp0
    rw [List.getD_eq_getElem?_getD, List.getElem?_replicate]
    split <;> rfl
  refine ⟨by unfold sp0; simp, fun j hj => ?_, ?_⟩
  · rw [z]
    have := (h.st _ (getD_mem (d := (0, [])) hj)).n
    exact ⟨Int.le_refl _, by show (0 : Int).toNat < _; exact this.1⟩
  · rw [z]
    exact ⟨Int.le_refl _, h.g.l.1⟩
theorem mv_mem {c : Cl} {sp : List Int} {k : Nat} {m : Mv} (h : m ∈ movesT c sp k) : m.1 < k ∧ ∃ pl, doorAt c sp m.1 = some pl ∧ m = (m.1, kindsAt c sp m.1 ++ [pl], gainT c sp m.1 c.ms.length) := by
  induction k with
  | zero => cases h
  | succ k ih =>
    rcases List.mem_append.mp h with z | z
    · obtain ⟨a, b⟩ := ih z
      exact ⟨by omega, b⟩
    · unfold mvAt at z
      cases q : doorAt c sp k with
      | none => rw [q] at z; cases z
      | some pl =>
        rw [q] at z
        rw [List.mem_singleton.mp z]
        exact ⟨Nat.lt_succ_self k, pl, q, rfl⟩
theorem mv_ok {c : Cl} (h : ClOk c) {sp : List Int} (hs : SpotOk c sp) {m : Mv} (hm : m ∈ movesT c sp c.asks.length) : SpotOk c m.2.1 := by
  obtain ⟨k1, pl, k2, k3⟩ := mv_mem hm
  rw [k3]
  have kl : (kindsAt c sp m.1).length = c.ms.length := by unfold kindsAt; simp
  refine ⟨?_, fun j hj => ?_, ?_⟩
  · show (kindsAt c sp m.1 ++ [pl]).length = _
    rw [List.length_append, kl]
    rfl
  · show 0 ≤ (kindsAt c sp m.1 ++ [pl]).getD j 0 ∧ ((kindsAt c sp m.1 ++ [pl]).getD j 0).toNat < _
    have e : (kindsAt c sp m.1 ++ [pl]).getD j 0 = (stepAt c sp m.1 j).1 := by
      rw [List.getD_eq_getElem?_getD, List.getElem?_append_left (by omega)]
      unfold kindsAt
      rw [List.getElem?_map, List.getElem?_range hj]
      rfl
    rw [e]
    have st := h.st _ (getD_mem (d := (0, [])) hj)
    have hit := getD_mem (d := []) (hs.k j hj).2
    have := st.k _ hit (stepAt c sp m.1 j) (getD_mem (by rw [st.l _ hit]; exact k1))
    omega
  · show 0 ≤ (kindsAt c sp m.1 ++ [pl]).getD c.ms.length 0 ∧ ((kindsAt c sp m.1 ++ [pl]).getD c.ms.length 0).toNat < _
    have e : (kindsAt c sp m.1 ++ [pl]).getD c.ms.length 0 = pl := by
      rw [List.getD_eq_getElem?_getD, List.getElem?_append_right (by omega), kl, Nat.sub_self]
      rfl
    rw [e]
    have hg := h.g.i _ (getD_mem (d := []) hs.g.2)
    have := hg.2 (some pl) (by
      rw [← k2]
      unfold doorAt
      exact getD_mem (by have := hg.1; omega)) pl rfl
    omega
theorem spB_ok {c : Cl} (h : ClOk c) {T : Nat} (hb : ∀ i, i < T → i < (spB c i).1.length) : ∀ i, i ≤ T → ∀ n ∈ (spB c i).1, SpotOk c n := by
  intro i
  induction i with
  | zero => intro _ n hn; rw [List.mem_singleton.mp hn]; exact sp0_ok h
  | succ i ih =>
    intro hi
    exact nodesF_all _ _ (ih (by omega)) fun m hm => mv_ok h (ih (by omega) _ (getD_mem (hb i (by omega)))) hm
abbrev trues (n : Nat) : List Mp := (List.range n).map fun _ => mTrue
abbrev swP (K : PySem.W.Frag) (w : World) (c : Cl) (i : Nat) : List Jd.Slot := [.val (mMs K c), .val (mWt c), .val (gItems c.gs), .val (mInt 1000), .val (mStr c.asks), .own (oL ((spB c i).1.map mNs)), .own (oL (rowsM (spB c i).1.length)), .own (oN w (kvsN numKey (spB c i).1)), .own (oL (trues i)), .any, .any, .any, .any, .any]
abbrev swQ (K : PySem.W.Frag) (w : World) (c : Cl) (ns : List (List Int)) (mv : List Mv) (i q : Nat) : List Jd.Slot := [.val (mMs K c), .val (mWt c), .val (gItems c.gs), .val (mInt 1000), .val (mStr c.asks), .own (oL ((nodesF ns (mv.take q)).map mNs)), .own (oL (rowsM (nodesF ns (mv.take q)).length)), .own (oN w (kvsN numKey (nodesF ns (mv.take q)))), .own (oL (trues i)), .val (mSh i), .own (oL (trues q)), .any, .any, .any]
abbrev H_spot_web (P : Program) (w : World) (K : PySem.W.Frag) (mg : Str → Option Value) (base : Heap) : Prop := HasD P w K mg base 3 "spot_web" ["machines", "weights", "steps", "most"] (spP (fun p : Cl × Nat => ClOk p.1 ∧ SpEnd p.1 p.2 ∧ p.2 ≤ 900) (fun p => [mMs K p.1, mWt p.1, gItems p.1.gs, mInt 1000]) fun _ => mTrue) [.int 1000]
theorem take_succ {α : Type} {xs : List α} {i : Nat} {d : α} (h : i < xs.length) : xs.take (i + 1) = xs.take i ++ [xs.getD i d] := by
  rw [List.take_succ, getD_some (d := d) h]
  rfl
theorem ok_spot_web (T : Tx K mg) (G1 : H_spot_moves P w K mg base) (G2 : H_Web P w K mg base) : H_spot_web P w K mg base := by
  obtain ⟨fd, D⟩ := T.D_spot_web
  obtain ⟨ds, hds, B⟩ := D.binds1 (ps := ["machines", "weights", "steps", "most"]) 3 0 (by decide) rfl (fun _ _ _ _ _ _ _ us its h1 h2 => match us, its, h1, h2 with
    | [_, _, _], [_], _, _ => ⟨_, rfl, rfl⟩)
  refine ⟨fd, ds, fn_pure D sc_spot_web (fun _ => rfl) (by decide) ?_, hds, B, T.g_spot_web, D.kp⟩
  rintro ⟨c, N⟩ ⟨hc, hE, hN⟩ cdv A outer s H E e hr
  dsimp only at hc hE hN ⊢
  have hs := askOk_size hc.a
  have hm := hc.m
  have hall := spB_ok hc hE.b
  have hlen : ∀ i, i ≤ N → (spB c i).1.length ≤ N := fun i hi => by have := spB_mono (c := c) hi; rw [hE.e] at this; exact this
  have hu : (cxOf CX0 P w K mg base N_spot_web "spot_web" (defScope (top 70)) (He.ga K "spot_web") cdv A outer s H E).nox.A.units + 9 < cLine := room_u hr
  refine ⟨_, _, js_cons (jset 4 (je_fld (je_ixLF (f := fun m => mMach K c.asks m.1 m.2) (xs := c.ms) (0, []) 0 (jpv 0) je_int rfl (by omega)) rfl T.c_Machine T.n_Machine_asks) sc_spot_web.nd)
    (js_cons (jsetO 5 (jo_lst (ja1 (je_of (je_tupOf (jp_of (je_fz (jo_rep (je_fzl (jo_lst (ja1 je_int) (Nat.le_of_ble_eq_true rfl))) (je_add (je_of (je_lenL (jpv 0) T.b_len) (by rw [List.length_map])) je_int) (by omega) (by omega)))) T.b_tuple) (show mT (List.replicate ((c.ms.length : Int) + 1).toNat (mInt 0)) = mNs (sp0 c) by
        show _ = mT (List.map mInt (sp0 c))
        unfold sp0
        rw [List.map_replicate]
        rfl))) (Nat.le_of_ble_eq_true rfl)) sc_spot_web.nd)
    (js_cons (jsetO 6 (jo_lst (ja1 (je_weak je_str (mSh_of (n := 0) (Nat.le_refl 0)))) (Nat.le_of_ble_eq_true rfl)) sc_spot_web.nd)
    (js_cons (jsetO 7 (jo_ndisp (k := numKey (sp0 c)) (r := 0) hu (fun kk => je_ix (jpo 5) (i := 0) (m := mNs (sp0 c)) je_int rfl) (fun kk => je_int) keyOf_nums ⟨_, rfl⟩) sc_spot_web.nd)
    (js_cons (jsetO 8 (jo_lst ja_nil (Nat.zero_le _)) sc_spot_web.nd)
    (js_cons (js_while (k := N) (P := swP K w c) (rs := fun i => .nx (swP K w c (i + 1))) (last := false) (by repeat (first | exact Le.nil | refine Le.same ?_ | refine Le.drop ?_)) (fun i hi => ?_) ?_ (fun i hi => ?_) (fun h => by cases h) (fun i hi => .nx Le.rfl) (.inl ⟨rfl, rfl⟩) PassesOwn.never)
    (js_one (js_ret (je_weak (je_fzI (jo_makeH (i := (mL ((spB c N).1.map mNs), mL (rowsM (spB c N).1.length), mL (trues N))) G2 hr (by omega) (ja_cons (jfz 5) (ja_cons (jfz 6) (ja1 (jfz 8)))) trivial)) fun _ _ _ => trivial)))))))), .of rfl⟩
  · refine jt_of (jt_lt (je_lenL (jpo 8) T.b_len) (je_lenL (jpo 5) T.b_len)) ?_
    rw [List.length_map, List.length_map, List.length_range]
    exact decide_eq_true (by have := hE.b i hi; omega)
  · refine jt_of (jt_lt (je_lenL (jpo 8) T.b_len) (je_lenL (jpo 5) T.b_len)) ?_
    rw [List.length_map, List.length_map, List.length_range, hE.e]
    exact decide_eq_false (by omega)
  · have hi2 := hE.b i hi
    have hsp := hall i (by omega) _ (getD_mem (d := []) hi2)
    have hnx : (nodesF (spB c i).1 (movesT c ((spB c i).1.getD i []) c.asks.length)).length ≤ N := hlen (i + 1) hi
    show JSs _ _ _ _ (.nx [_, _, _, _, _, .own (oL ((nodesF (spB c i).1 (movesT c ((spB c i).1.getD i []) c.asks.length)).map mNs)), .own (oL (rowsM (nodesF (spB c i).1 (movesT c ((spB c i).1.getD i []) c.asks.length)).length)), .own (oN w (kvsN numKey (nodesF (spB c i).1 (movesT c ((spB c i).1.getD i []) c.asks.length)))), .own (oL (trues (i + 1))), _, _, _, _, _])
    have hmv := fun m hm => (mv_mem (c := c) (sp := (spB c i).1.getD i []) (k := c.asks.length) (m := m) hm).1
    have hml := movesT_len c ((spB c i).1.getD i []) c.asks.length
    refine js_cons (jset 9 (je_ixLF 0 i (jpo 6) (je_lenL (jpo 8) T.b_len) (by rw [List.length_map, List.length_range]) (by simpa using hi2) (m := mSh i) (by rw [List.getD_eq_getElem?_getD, List.getElem?_range hi2]; rfl)) sc_spot_web.nd)
      (js_cons (jsetO 10 (jo_lst ja_nil (Nat.zero_le _)) sc_spot_web.nd)
      (js_cons (js_forN (fun q => swQ K w c (spB c i).1 (movesT c ((spB c i).1.getD i []) c.asks.length) i q) (ji_map (f := mMv) (xs := movesT c ((spB c i).1.getD i []) c.asks.length) (0, [], 0) (.inl rfl) (je_callH (i := (c, (spB c i).1.getD i [])) G1 hr (by omega) (ja_cons (jv 0) (ja_cons (jv 1) (ja_cons (jv 2) (ja1 (je_ixLF [] i (jpo 5) (je_lenL (jpo 8) T.b_len) (by rw [List.length_map, List.length_range]) hi2))))) ⟨hc, hsp⟩)
        (g := fun q => mT [mNat ((movesT c ((spB c i).1.getD i []) c.asks.length).getD q (0, [], 0)).1, mNs ((movesT c ((spB c i).1.getD i []) c.asks.length).getD q (0, [], 0)).2.1, mInt ((movesT c ((spB c i).1.getD i []) c.asks.length).getD q (0, [], 0)).2.2]) (fun _ _ => rfl)) ?_ (fun q hq => ?_) PassesOwn.never)
      (js_weak (js_one (js_app 8 (je_weak (jfz 10) fun _ _ _ => trivial : JE _ _ _ _ mTrue _) (hl := by rw [List.length_map, List.length_range]; omega))) ?_)))
    · exact (by repeat (first | exact Le.nil | refine Le.same ?_ | refine Le.drop ?_))
    · generalize (spB c i).1.getD i [] = sp at *
      generalize hMV : movesT c sp c.asks.length = mv at *
      have tk := take_succ (d := ((0, [], 0) : Mv)) hq
      show ∃ B s, JG _ _ _ _ _ _ ∧ JSs _ _ _ _ _ ∧ Le s [_, _, _, _, _, .own (oL ((nodesF (spB c i).1 (mv.take (q + 1))).map mNs)), .own (oL (rowsM (nodesF (spB c i).1 (mv.take (q + 1))).length)), .own (oN w (kvsN numKey (nodesF (spB c i).1 (mv.take (q + 1))))), _, _, .own (oL (trues (q + 1))), _, _, _]
      have hk := hmv _ (getD_mem (d := ((0, [], 0) : Mv)) hq)
      have lN : (nodesF (spB c i).1 (mv.take (q + 1))).length ≤ N := by
        refine Nat.le_trans ?_ hnx
        have e : mv = mv.take (q + 1) ++ mv.drop (q + 1) := (List.take_append_drop _ _).symm
        have e2 : nodesF (spB c i).1 mv = nodesF (nodesF (spB c i).1 (mv.take (q + 1))) (mv.drop (q + 1)) := by
          unfold nodesF
          rw [← List.foldl_append, List.take_append_drop]
        rw [e2]
        exact nodesF_le _ _
      rw [tk, nodesF_snoc] at lN ⊢
      generalize mv.getD q (0, [], 0) = m at *
      generalize hL : nodesF (spB c i).1 (mv.take q) = L at *
      have iL : i < L.length := Nat.lt_of_lt_of_le hi2 (by rw [← hL]; exact nodesF_le _ _)
      have LN : L.length ≤ N := Nat.le_trans putX_le lN
      have gk : getN (kvsN numKey L) (numKey m.2.1) = (posOf L m.2.1).map fun i : Nat => (i : Int) := getN_kvs fun _ _ => numKey_inj
      have gp : getN (kvsN numKey (putX L m.2.1)) (numKey m.2.1) = some ((atX L m.2.1 : Nat) : Int) := by
        rw [getN_kvs fun _ _ => numKey_inj, posOf_put]
        rfl
      rw [show trues (q + 1) = trues q ++ [mTrue] from range_map_succ _ _]
      refine ⟨_, _, jg_tup (jgs_cons (jgn 11 sc_spot_web.nd) (jgs_cons (jgn 12 sc_spot_web.nd) (jgs_cons (jgn 13 sc_spot_web.nd) jgs_nil))),
        js_cons (js_if (r := .nx [.val (mMs K c), .val (mWt c), .val (gItems c.gs), .val (mInt 1000), .val (mStr c.asks), .own (oL ((putX L m.2.1).map mNs)), .own (oL (rowsM (putX L m.2.1).length)), .own (oN w (kvsN numKey (putX L m.2.1))), .own (oL (trues i)), .val (mSh i), .own (oL (trues q)), .val (mNat m.1), .val (mNs m.2.1), .val (mInt m.2.2)])
            (jt_nnotin (i := 7) (kvs := kvsN numKey L) (k := numKey m.2.1) hu (jv 12) keyOf_nums ⟨_, rfl⟩ (by rw [← hL]; rfl) rfl) (fun z => ?_) (fun z => ?_))
        (js_one (js_app 10 (je_weak (je_tup (ja_cons (jv 11) (ja_cons (je_nget (i := 7) (r := ((atX L m.2.1 : Nat) : Int)) hu (jv 12) keyOf_nums ⟨_, rfl⟩ rfl ⟨_, rfl⟩ gp rfl) (ja1 (jv 13)))) (Nat.le_of_ble_eq_true rfl)) fun _ _ _ => trivial : JE _ _ _ _ mTrue _) (hl := by rw [List.length_map, List.length_range]; omega))), (by repeat (first | exact Le.nil | refine Le.same ?_ | refine Le.drop ?_))⟩
      · have hno : m.2.1 ∉ L := by
          rw [gk, Option.isSome_map] at z
          refine posOf_none.mp ?_
          cases q : posOf L m.2.1 with
          | none => rfl
          | some j => rw [q] at z; cases z
        have gk' : getN (kvsN numKey L) (numKey m.2.1) = none := by rw [gk, posOf_none.mpr hno]; rfl
        rw [(atX_new hno).1] at lN ⊢
        rw [List.length_append, List.length_singleton] at lN
        rw [List.map_append, kvsN_snoc, List.length_append, List.length_singleton, rowsM_succ]
        subst hL
        exact js_cons (js_if (jt_w (jw_and (jt_notN (jv 3) nonB_int) fun _ => jw_one (jt_eq (je_lenL (jpo 5) T.b_len) (jv 3)))) (fun y => by
            have y := of_decide_eq_true (show decide _ = true from y)
            rw [List.length_map] at y
            omega) fun _ => js_nil)
          (js_cons (js_nput (i := 7) (kvs := kvsN numKey (nodesF (spB c i).1 (mv.take q))) (r := ((nodesF (spB c i).1 (mv.take q)).length : Int)) hu (je_of (je_lenL (jpo 5) T.b_len) (by rw [List.length_map])) (jv 12) keyOf_nums ⟨_, rfl⟩ rfl ⟨_, rfl⟩ gk' (by rw [kvsN_length]; omega) rfl)
          (js_cons (js_app 5 (jv 12) (hl := by rw [List.length_map]; omega))
          (js_one (js_app 6 (je_weak (je_addSh (jv 9) (je_weak (je_ixS (cc := c.asks.cps.toList.getD m.1 0) (jv 4) (jv 11) (by omega) (atI_nat (getD_some hk))) (mSh_of (n := 1) (Nat.le_refl 1))) (by omega)) (mSh_le iL)) (hl := by rw [List.length_map, List.length_range]; omega)))))
      · have hin : m.2.1 ∈ L := by
          rw [gk, Option.isSome_map] at z
          cases q : posOf L m.2.1 with
          | none => rw [q] at z; cases z
          | some j => exact List.mem_of_getElem? (posOf_some q).2
        rw [(atX_old hin).1]
        subst hL
        exact js_nil
    · delta swQ
      rw [List.take_length, show trues (i + 1) = trues i ++ [mTrue] from range_map_succ _ _]
      exact (by repeat (first | exact Le.nil | refine Le.same ?_ | refine Le.drop ?_))
end Afw

/-! text D15 -/
set_option Elab.async false
set_option linter.all false
set_option maxRecDepth 100000
set_option maxHeartbeats 4000000
namespace Afw
open PySem L2 PySem.Spec PyProof.Rows Jd
variable {P : Program} {w : World} {K : PySem.W.Frag} {mg : Str → Option Value} {base : Heap}
abbrev chrA (c : Cl) (k : Nat) : Str := ⟨#[c.asks.cps.toList.getD k 0]⟩
def stepF (c : Cl) (ch : Str) (acc : Option (List Int × Int)) (m : Mv) : Option (List Int × Int) := if chrA c m.1 = ch then some (m.2.1, m.2.2) else acc
def stepOn (c : Cl) (ch : Str) (mv : List Mv) : Option (List Int × Int) := mv.foldl (stepF c ch) none
def goOn (c : Cl) (ch : Str) : Option (List Int × Int) → Option (List Int × Int)
  | none => none
  | some (s, t) => match stepOn c ch (movesT c s c.asks.length) with
    | none => none
    | some (s', g) => some (s', t + g)
def behT (c : Cl) (sp : List Int) (z : Str) : Nat → Option (List Int × Int)
  | 0 => some (sp, 0)
  | i + 1 => goOn c (chr1 z i) (behT c sp z i)
def mRes : Option (List Int × Int) → Mp
  | none => mNone
  | some (s, t) => mT [mNs s, mInt t]
theorem nonB_res {o : Option (List Int × Int)} : NonB (mRes o) o.isNone := by
  cases o with
  | none => exact nonB_none
  | some p => exact nonB_T
theorem stepOn_mem {c : Cl} {ch : Str} {s : List Int} {g : Int} : ∀ {mv : List Mv} {a : Option (List Int × Int)}, mv.foldl (stepF c ch) a = some (s, g) → a = some (s, g) ∨ ∃ m ∈ mv, m.2.1 = s ∧ m.2.2 = g
  | [], a, h => .inl h
  | m :: r, a, h => by
    rcases stepOn_mem (mv := r) h with z | ⟨m', h1, h2⟩
    · unfold stepF at z
      split at z
      · injection z with z
        injection z with z1 z2
        exact .inr ⟨m, List.mem_cons_self, z1, z2⟩
      · exact .inl z
    · exact .inr ⟨m', List.mem_cons_of_mem _ h1, h2⟩
theorem beh_ok {c : Cl} (hc : ClOk c) {sp : List Int} (hs : SpotOk c sp) {z : Str} : ∀ i s t, behT c sp z i = some (s, t) → SpotOk c s
  | 0, s, t, h => by
    injection h with h
    injection h with h1 h2
    rw [← h1]
    exact hs
  | i + 1, s, t, h => by
    have h' : goOn c (chr1 z i) (behT c sp z i) = some (s, t) := h
    cases q : behT c sp z i with
    | none => rw [q] at h'; cases h'
    | some p =>
      obtain ⟨s0, t0⟩ := p
      rw [q] at h'
      have ih := beh_ok hc hs i s0 t0 q
      unfold goOn at h'
      cases q2 : stepOn c (chr1 z i) (movesT c s0 c.asks.length) with
      | none => simp only [q2] at h'; cases h'
      | some p2 =>
        obtain ⟨s1, g⟩ := p2
        simp only [q2] at h'
        injection h' with h'
        injection h' with h1 h2
        rw [← h1]
        rcases stepOn_mem q2 with z | ⟨m, hm, e1, e2⟩
        · cases z
        · rw [← e1]; exact mv_ok hc ih hm
theorem beh_none {c : Cl} {sp : List Int} {z : Str} {k : Nat} (h : behT c sp z k = none) : ∀ j, k ≤ j → behT c sp z j = none
  | 0, hj => by rw [Nat.le_zero.mp hj] at h; exact h
  | j + 1, hj => by
    by_cases e : k = j + 1
    · rw [← e]; exact h
    · show goOn c (chr1 z j) (behT c sp z j) = none
      rw [beh_none h j (by omega)]
      rfl
def behS (c : Cl) (sp : List Int) (z : Str) (i : Nat) : List Int × Int := (behT c sp z i).getD ([], 0)
theorem behS_eq {c : Cl} {sp : List Int} {z : Str} {i : Nat} (h : (behT c sp z i).isSome = true) : behT c sp z i = some (behS c sp z i) := by
  unfold behS
  cases q : behT c sp z i with
  | none => rw [q] at h; cases h
  | some p => rfl
def forBody : Stmt → List Stmt
  | .For _ _ b _ _ => b
  | _ => []
abbrev sbP (K : PySem.W.Frag) (c : Cl) (z : Str) (st : List Int × Int) : List Jd.Slot := [.val (mMs K c), .val (mWt c), .val (gItems c.gs), .val (mNs st.1), .val (mStr z), .val (mStr c.asks), .val (mInt st.2), .any, .any, .any, .any, .any]
abbrev H_spot_behind (P : Program) (w : World) (K : PySem.W.Frag) (mg : Str → Option Value) (base : Heap) : Prop := Has P w K mg base 2 "spot_behind" ["machines", "weights", "steps", "spot", "row"] (spP (fun p : Cl × List Int × Str => ClOk p.1 ∧ SpotOk p.1 p.2.1) (fun p => [mMs K p.1, mWt p.1, gItems p.1.gs, mNs p.2.1, mStr p.2.2])
  fun p => mRes (behT p.1 p.2.1 p.2.2 p.2.2.cps.size))
theorem ok_spot_behind (T : Tx K mg) (G1 : H_spot_moves P w K mg base) : H_spot_behind P w K mg base := by
  obtain ⟨fd, D, B⟩ := T.D_spot_behind
  refine ⟨fd, fn_pure D sc_spot_behind (fun _ => rfl) (by decide) ?_, B, T.g_spot_behind, D.kp⟩
  rintro ⟨c, sp, z⟩ ⟨hc, hsp⟩ cdv A outer s H E e hr
  dsimp only at hc hsp ⊢
  have hs := askOk_size hc.a
  have hm := hc.m
  have turn : ∀ i, (behT c sp z i).isSome = true → SpotOk c (behS c sp z i).1 := fun i hi => beh_ok hc hsp i _ _ (behS_eq hi)
  have turnJ : ∀ i, i < z.cps.size → (behT c sp z i).isSome = true → JSs (cxOf CX0 P w K mg base N_spot_behind "spot_behind" (defScope (top 75)) (He.ga K "spot_behind") cdv A outer s H E).nox e (forBody ((defBody (top 75)).getD 2 (.Pass ⟨0, 0, 0, 0⟩))) ((sbP K c z (behS c sp z i)).set 7 (.val (mStr (chr1 z i))))
      (match behT c sp z (i + 1) with
        | none => .rt mNone (sbP K c z (behS c sp z i))
        | some p => .nx (sbP K c z p)) := fun i hi hsm => by
    have hok := turn i hsm
    have eb := behS_eq hsm
    have e1 : behT c sp z (i + 1) = goOn c (chr1 z i) (some (behS c sp z i)) := by rw [← eb]; rfl
    rw [e1]
    generalize hbs : behS c sp z i = bs at *
    obtain ⟨s1, t1⟩ := bs
    show JSs _ _ _ _ (match (match stepOn c (chr1 z i) (movesT c s1 c.asks.length) with
      | none => none
      | some (s', g) => some (s', t1 + g)) with
        | none => _
        | some p => _)
    have ml := movesT_len c s1 c.asks.length
    have mk := fun m hm => (mv_mem (c := c) (sp := s1) (k := c.asks.length) (m := m) hm).1
    have loop : ∀ q, q < (movesT c s1 c.asks.length).length → stepOn c (chr1 z i) ((movesT c s1 c.asks.length).take (q + 1)) = stepF c (chr1 z i) (stepOn c (chr1 z i) ((movesT c s1 c.asks.length).take q)) ((movesT c s1 c.asks.length).getD q (0, [], 0)) := fun q hq => by
      rw [take_succ (d := ((0, [], 0) : Mv)) hq]
      unfold stepOn
      rw [List.foldl_append]
      rfl
    refine js_cons (jset 8 je_none sc_spot_behind.nd) (js_cons (js_forN (fun q => [.val (mMs K c), .val (mWt c), .val (gItems c.gs), .val (mNs s1), .val (mStr z), .val (mStr c.asks), .val (mInt t1), .val (mStr (chr1 z i)), .val (mRes (stepOn c (chr1 z i) ((movesT c s1 c.asks.length).take q))), .any, .any, .any])
        (ji_map (f := mMv) (xs := movesT c s1 c.asks.length) (0, [], 0) (.inl rfl) (je_callH (i := (c, s1)) G1 hr (by omega) (ja_cons (jv 0) (ja_cons (jv 1) (ja_cons (jv 2) (ja1 (jv 3))))) ⟨hc, hok⟩)
          (g := fun q => mT [mNat ((movesT c s1 c.asks.length).getD q (0, [], 0)).1, mNs ((movesT c s1 c.asks.length).getD q (0, [], 0)).2.1, mInt ((movesT c s1 c.asks.length).getD q (0, [], 0)).2.2]) (fun _ _ => rfl)) (by repeat (first | exact Le.nil | refine Le.same ?_ | refine Le.drop ?_)) (fun q hq => ?_) PassesOwn.never) ?_)
    · rw [loop q hq]
      have hk := mk _ (getD_mem (d := ((0, [], 0) : Mv)) hq)
      generalize (movesT c s1 c.asks.length).getD q (0, [], 0) = m at *
      generalize stepOn c (chr1 z i) ((movesT c s1 c.asks.length).take q) = o at *
      refine ⟨_, [.val (mMs K c), .val (mWt c), .val (gItems c.gs), .val (mNs s1), .val (mStr z), .val (mStr c.asks), .val (mInt t1), .val (mStr (chr1 z i)), .val (mRes (stepF c (chr1 z i) o m)), .any, .any, .any], jg_tup (jgs_cons (jgn 9 sc_spot_behind.nd) (jgs_cons (jgn 10 sc_spot_behind.nd) (jgs_cons (jgn 11 sc_spot_behind.nd) jgs_nil))), ?_, (by repeat (first | exact Le.nil | refine Le.same ?_ | refine Le.drop ?_))⟩
      by_cases y : chrA c m.1 = chr1 z i
      · have e2 : stepF c (chr1 z i) o m = some (m.2.1, m.2.2) := if_pos y
        rw [e2]
        exact js_weak (js_one (js_if (jt_eqS (je_ixS (cc := c.asks.cps.toList.getD m.1 0) (jv 5) (jv 9) (by omega) (atI_nat (getD_some hk))) (jv 7)) (fun _ => js_one (jset 8 (je_tup (ja_cons (jv 10) (ja1 (jv 11))) (Nat.le_of_ble_eq_true rfl)) sc_spot_behind.nd)) fun n => absurd y (of_decide_eq_false n))) (by repeat (first | exact Le.nil | refine Le.same ?_ | refine Le.drop ?_))
      · have e2 : stepF c (chr1 z i) o m = o := if_neg y
        rw [e2]
        exact js_weak (js_one (js_if (jt_eqS (je_ixS (cc := c.asks.cps.toList.getD m.1 0) (jv 5) (jv 9) (by omega) (atI_nat (getD_some hk))) (jv 7)) (fun n => absurd (of_decide_eq_true n) y) fun _ => js_nil)) (by repeat (first | exact Le.nil | refine Le.same ?_ | refine Le.drop ?_))
    · rw [List.take_length]
      cases hso : stepOn c (chr1 z i) (movesT c s1 c.asks.length) with
      | none => exact js_weakR (js_rt (js_if (t := true) (jt_isN (jv 8) nonB_none) (fun _ => js_one (js_ret je_none)) fun n => by cases n)) (by repeat (first | exact Le.nil | refine Le.same ?_ | refine Le.drop ?_))
      | some p =>
        obtain ⟨s2, g⟩ := p
        exact js_weak (js_cons (js_if (t := false) (jt_isN (jv 8) nonB_T) (fun n => by cases n) fun _ => js_nil) (js_cons (jset 3 (m := mNs s2) (je_ixT (ms := [mNs s2, mInt g]) (i := 0) (jv 8) je_int rfl) sc_spot_behind.nd) (js_one (jset 6 (je_add (jv 6) (je_ixT (ms := [mNs s2, mInt g]) (i := 1) (m := mInt g) (jv 8) je_int rfl)) sc_spot_behind.nd)))) (by repeat (first | exact Le.nil | refine Le.same ?_ | refine Le.drop ?_))
  rcases first_fail (fun i => (behT c sp z (i + 1)).isSome) z.cps.size with h | ⟨k, k1, k2, k3⟩
  · have hsome : ∀ i, i ≤ z.cps.size → (behT c sp z i).isSome = true := fun i hi => by
      cases i with
      | zero => rfl
      | succ i => exact h i (by omega)
    refine ⟨_, _, js_cons (jset 5 (je_fld (je_ixLF (f := fun m => mMach K c.asks m.1 m.2) (xs := c.ms) (0, []) 0 (jpv 0) je_int rfl (by omega)) rfl T.c_Machine T.n_Machine_asks) sc_spot_behind.nd)
      (js_cons (jset 6 je_int sc_spot_behind.nd)
      (js_cons (js_forN (fun i => sbP K c z (behS c sp z i)) (ji_str (jv 4)) (by repeat (first | exact Le.nil | refine Le.same ?_ | refine Le.drop ?_)) (fun i hi => ⟨_, sbP K c z (behS c sp z (i + 1)), jgn 7 sc_spot_behind.nd, ?_, Le.rfl⟩) PassesOwn.never)
      (js_one (js_ret (je_tup (ja_cons (jv 3) (ja1 (jv 6))) (Nat.le_of_ble_eq_true rfl)))))), .of ?_⟩
    · have t := turnJ i hi (hsome i (by omega))
      rw [behS_eq (hsome (i + 1) (by omega))] at t
      exact t
    · rw [behS_eq (hsome _ (Nat.le_refl _))]
      rfl
  · have hsome : ∀ i, i ≤ k → (behT c sp z i).isSome = true := fun i hi => by
      cases i with
      | zero => rfl
      | succ i => exact k3 i (by omega)
    have hnone : behT c sp z (k + 1) = none := by
      cases q : behT c sp z (k + 1) with
      | none => rfl
      | some p => simp only [q] at k2; cases k2
    refine ⟨_, _, js_cons (jset 5 (je_fld (je_ixLF (f := fun m => mMach K c.asks m.1 m.2) (xs := c.ms) (0, []) 0 (jpv 0) je_int rfl (by omega)) rfl T.c_Machine T.n_Machine_asks) sc_spot_behind.nd)
      (js_cons (jset 6 je_int sc_spot_behind.nd)
      (js_rt (js_for (k := k) (P := fun i => sbP K c z (behS c sp z i)) (B := fun i => (sbP K c z (behS c sp z i)).set 7 (.val (mStr (chr1 z i)))) (rs := fun i => match behT c sp z (i + 1) with
        | none => .rt mNone (sbP K c z (behS c sp z i))
        | some p => .nx (sbP K c z p)) (r := .rt mNone (sbP K c z (behS c sp z k))) (ji_str (jv 4)) (by repeat (first | exact Le.nil | refine Le.same ?_ | refine Le.drop ?_)) (by omega) (fun i _ _ => jgn 7 sc_spot_behind.nd) (fun i hi hik => turnJ i hi (hsome i hik)) (fun i hi => ?_) (.inr ⟨k1, ?_⟩) PassesOwn.never))), .of ?_⟩
    · simp only [behS_eq (hsome (i + 1) (by omega))]
      exact .nx Le.rfl
    · simp only [hnone]
      exact .rt
    · rw [beh_none hnone _ (by omega)]
      rfl
end Afw

/-! text D16 -/
set_option Elab.async false
set_option linter.all false
set_option maxRecDepth 100000
set_option maxHeartbeats 4000000
namespace Afw
open PySem L2 PySem.Spec PyProof.Rows Jd
variable {P : Program} {w : World} {K : PySem.W.Frag} {mg : Str → Option Value} {base : Heap}
/-! ### claims -/
def d0 : StD := ⟨⟨#[]⟩, [], [], []⟩
def stN (d : StD) : Nat := findT (fun i => decide ((stB d i).1.length ≤ i)) 900
structure Ready (d : StD) : Prop where
  ok : StOk d
  e : StEnd d (stN d)
  n : stN d ≤ 900
def mach (d : StD) : Int × StT := (smF d (stN d), machM d (stN d))
def clOf (ds : List StD) (fs cs : List Int) (gs : List (List (Option Int))) : Cl := ⟨(ds.getD 0 d0).asks, ds.map mach, fs, cs, gs⟩
structure JrOk (ds : List StD) (fs cs : List Int) (gs : List (List (Option Int))) : Prop where
  n : 1 ≤ ds.length ∧ ds.length ≤ 100
  r : ∀ d ∈ ds, Ready d ∧ d.asks = (ds.getD 0 d0).asks
  f : fs.length = ds.length
  fb : ∀ f ∈ fs, -(2 ^ 64) < f ∧ f < 2 ^ 64
  c : cs.length = (ds.getD 0 d0).asks.length
  g : GateOk (ds.getD 0 d0).asks gs
theorem clOf_ok {ds : List StD} {fs cs : List Int} {gs : List (List (Option Int))} (h : JrOk ds fs cs gs) : ClOk (clOf ds fs cs gs) := by
  have h0 := h.r _ (getD_mem (d := d0) h.n.1)
  refine ⟨h0.1.ok.a, by show 1 ≤ (ds.map mach).length ∧ (ds.map mach).length ≤ 100; rw [List.length_map]; exact h.n, fun m hm => ?_, by show fs.length = (ds.map mach).length; rw [List.length_map]; exact h.f, h.fb, h.c, h.g⟩
  obtain ⟨d, hd, rfl⟩ := List.mem_map.mp hm
  obtain ⟨r, e⟩ := h.r d hd
  have ok := smI_ok r.e r.n
  have := shrM_ok ok (clsM_ok ok)
  show StepsOk (machM d (stN d)) (ds.getD 0 d0).asks.length
  rw [← e]
  exact this
abbrev H_check_tellers (P : Program) (w : World) (K : PySem.W.Frag) (mg : Str → Option Value) (base : Heap) : Prop := Has P w K mg base 3 "check_tellers" ["tellers", "factors"] (spP (fun p : Mp × List StD × Mp × List Int => SeqOf p.1 (p.2.1.map (mStore K)) ∧ 1 ≤ p.2.1.length ∧ (∀ d ∈ p.2.1, d.asks = (p.2.1.getD 0 d0).asks) ∧ SeqOf p.2.2.1 (p.2.2.2.map mInt) ∧ p.2.2.2.length = p.2.1.length)
  (fun p => [p.1, p.2.2.1]) fun _ => mNone)
theorem ok_check_tellers (T : Tx K mg) (G : H_integers P w K mg base) : H_check_tellers P w K mg base := by
  obtain ⟨fd, D, B⟩ := T.D_check_tellers
  refine ⟨fd, fn_pure D sc_check_tellers (fun _ => rfl) (by decide) ?_, B, T.g_check_tellers, D.kp⟩
  rintro ⟨m, ds, fm, fs⟩ ⟨hq, h1, h2, hf, hl⟩ cdv A outer s H E e hr
  dsimp only at hq h1 h2 hf hl ⊢
  refine ⟨_, _, js_cons (js_forN (fun _ => [.val m, .val fm, .any]) (ji_map (f := mStore K) (xs := ds) d0 hq (jv 0) (g := fun i => mStore K (ds.getD i d0)) (fun _ _ => rfl)) (by repeat (first | exact Le.nil | refine Le.same ?_ | refine Le.drop ?_)) (fun i hi => ⟨_, _, jgn 2 sc_check_tellers.nd,
      js_one (js_if (jt_neS (je_fld (jv 2) rfl T.c_Store T.n_Store_asks) (je_fld (je_ixSq hq (i := 0) (n := mStore K (ds.getD 0 d0)) (jv 0) je_int (atI_mapN (i := 0) (getD_some h1))) rfl T.c_Store T.n_Store_asks)) (fun z => ?_) fun _ => js_nil), (by repeat (first | exact Le.nil | refine Le.same ?_ | refine Le.drop ?_))⟩) PassesOwn.never)
    (js_one (js_if (jt_not (jt_val (je_callH (i := (fm, (ds.length : Int), true)) G hr (by omega) (ja_cons (jv 1) (ja1 (je_of (je_lenSq hq (jv 0) T.b_len) (by rw [List.length_map])))) ?_))) (fun z => by cases z) fun _ => js_nil)), .nx rfl⟩
  · rw [decide_eq_true (h2 _ (getD_mem hi))] at z
    cases z
  · have := ints_of (m := fm) (ns := fs) hf
    rw [hl] at this
    exact this
abbrev H_checked_counts (P : Program) (w : World) (K : PySem.W.Frag) (mg : Str → Option Value) (base : Heap) : Prop := Has P w K mg base 3 "checked_counts" ["asks", "counts"] (spP (fun p : Str × List Int => p.2.length = p.1.length ∧ p.1.length ≤ 1000) (fun p => [mStr p.1, mLs p.2]) fun p => mNs p.2)
theorem ok_checked_counts (T : Tx K mg) (G : H_integers P w K mg base) : H_checked_counts P w K mg base := by
  obtain ⟨fd, D, B⟩ := T.D_checked_counts
  refine ⟨fd, fn_pure D sc_checked_counts (fun _ => rfl) (by decide) ?_, B, T.g_checked_counts, D.kp⟩
  rintro ⟨asks, cs⟩ ⟨hl, ha⟩ cdv A outer s H E e hr
  dsimp only at hl ha ⊢
  refine ⟨_, _, js_cons (js_if (jt_isN (jv 1) nonB_L) (fun z => by cases z) fun _ => js_nil)
    (js_cons (js_if (jt_not (jt_val (je_callH (i := (mLs cs, (asks.length : Int), true)) G hr (by omega) (ja_cons (jv 1) (ja1 (je_lenS (jv 0) (by omega) T.b_len))) ?_))) (fun z => by cases z) fun _ => js_nil)
    (js_one (js_ret (je_tupOf (jpv 1) T.b_tuple)))), .of rfl⟩
  have := ints_of (m := mLs cs) (ns := cs) (.inl rfl)
  rw [hl] at this
  exact this
abbrev mGate (K : PySem.W.Frag) (asks : Str) (gs : List (List (Option Int))) : Mp := mI (He.ga K "Gate") (GateM K asks (gItems gs))
structure JrD where
  ds : List StD
  fs : List Int
  cs : List Int
  gs : List (List (Option Int))
abbrev H_taken (P : Program) (w : World) (K : PySem.W.Frag) (mg : Str → Option Value) (base : Heap) : Prop := Has P w K mg base 10 "taken" ["tellers", "factors", "counts", "gate"] (spP (fun j : JrD => JrOk j.ds j.fs j.cs j.gs)
  (fun j => [mT (j.ds.map (mStore K)), mLs j.fs, mLs j.cs, mGate K (j.ds.getD 0 d0).asks j.gs]) fun j => mT [mMs K (clOf j.ds j.fs j.cs j.gs), mWt (clOf j.ds j.fs j.cs j.gs), gItems j.gs])
theorem ok_taken (T : Tx K mg) (G1 : H_check_tellers P w K mg base) (G2 : H_checked_counts P w K mg base) (G3 : H_least_machine P w K mg base) (G4 : H_gate_steps P w K mg base) : H_taken P w K mg base := by
  obtain ⟨fd, D, B⟩ := T.D_taken
  refine ⟨fd, fn_pure D sc_taken (fun _ => rfl) (by decide) ?_, B, T.g_taken, D.kp⟩
  rintro ⟨ds, fs, cs, gs⟩ h cdv A outer s H E e hr
  dsimp only at h ⊢
  have hn := h.n
  have h0 := (h.r _ (getD_mem (d := d0) hn.1)).1
  have hs := askOk_size h0.ok.a
  refine ⟨_, _, js_cons (js_expr (je_callH (i := (mT (ds.map (mStore K)), ds, mLs fs, fs)) G1 hr (by omega) (ja_cons (jv 0) (ja1 (jv 1))) ⟨.inr rfl, hn.1, fun d hd => (h.r d hd).2, .inl rfl, h.f⟩))
    (js_cons (jset 4 (je_fld (je_ixF (f := mStore K) (xs := ds) d0 0 (jv 0) je_int rfl hn.1) rfl T.c_Store T.n_Store_asks) sc_taken.nd)
    (js_cons (jset 5 (je_tup (ja_cons (je_tupOf (jpv 1) T.b_tuple) (ja1 (je_callH (i := ((ds.getD 0 d0).asks, cs)) G2 hr (by omega) (ja_cons (jv 4) (ja1 (jv 2))) ⟨h.c, by show (ds.getD 0 d0).asks.length ≤ 1000; omega⟩))) (Nat.le_of_ble_eq_true rfl)) sc_taken.nd)
    (js_cons (js_if (jt_w (jw_and (t := !false) (jt_notN (jv 3) nonB_I) fun _ => jw_one (jt_neS (je_fld (jv 3) rfl T.c_Gate T.n_Gate_asks) (jv 4)))) (fun z => ?_) fun _ => js_nil)
    (js_cons (js_setLc1 (i0 := 6) (jx := 7) (fun i => mMach K (ds.getD i d0).asks (mach (ds.getD i d0)).1 (mach (ds.getD i d0)).2) (ji_map (f := mStore K) (xs := ds) d0 (.inr rfl) (jv 0) (g := fun i => mStore K (ds.getD i d0)) (fun _ _ => rfl)) softA
      (fun i hi k s H C cl fp => je_callH (i := (ds.getD i d0, stN (ds.getD i d0))) G3 hr (by omega) (ja1 (jv 7)) (by have := (h.r _ (getD_mem (d := d0) hi)).1; exact ⟨this.ok, this.e, this.n⟩)) (by omega) sc_taken.nd)
    (js_one (js_ret (je_tup (ja_cons (jfz 6) (ja_cons (jv 5) (ja1 (je_callH (i := ((ds.getD 0 d0).asks, (ds.getD 0 d0).asks, gItems gs)) G4 hr (by omega) (ja_cons (jv 4) (ja1 (jv 3))) trivial)))) (Nat.le_of_ble_eq_true rfl)))))))), .of ?_⟩
  · have z : (!false && !decide ((ds.getD 0 d0).asks = (ds.getD 0 d0).asks)) = true := z
    rw [decide_eq_true rfl] at z
    cases z
  · have e : (List.range ds.length).map (fun i => mMach K (ds.getD i d0).asks (mach (ds.getD i d0)).1 (mach (ds.getD i d0)).2) = (clOf ds fs cs gs).ms.map fun m => mMach K (clOf ds fs cs gs).asks m.1 m.2 := by
      show _ = (ds.map mach).map _
      rw [List.map_map]
      apply List.ext_getElem
      · simp
      · intro i h1 h2
        have hi : i < ds.length := by simpa using h2
        have ei : ds.getD i d0 = ds[i] := by rw [List.getD_eq_getElem?_getD, List.getElem?_eq_getElem hi]; rfl
        rw [List.getElem_map, List.getElem_map, List.getElem_range, ei]
        have ea := (h.r _ (List.getElem_mem hi)).2
        show mMach K (ds[i]).asks _ _ = mMach K (ds.getD 0 d0).asks _ _
        rw [ea]
    rw [e]
    rfl
end Afw

/-! text J25 -/
set_option Elab.async false
set_option linter.all false
set_option maxRecDepth 100000
set_option maxHeartbeats 4000000
namespace Jd
open PySem PySem.W L2 PySem.Spec PyProof.Rows
variable {X : Cx} {e : En} {ss ss' ss1 ss2 ss3 s0 : List Slot} {σ : L2.St} {F F' H H' : Hp} {a b c x y it elt tg : Expr} {pos p q : Pos} {m n o : Mp} {i j : Int} {ms : List Mp} {nm : Str} {st : Stmt} {rest body : List Stmt} {r : Res}
/-! ### in an except suite -/
/-- the name of a caught exception: at z, its dict at dd, there f is such a value -/
def mExc (z dd : Addr) (f : Str) (m : Mp) : Mp := ⟨fun F u => u = .ref z ∧ ∃ v, F dd = some (.xd [(f, v)]) ∧ m.p F v, fun xx ⟨h1, v, h2, h3⟩ => ⟨h1, v, xx _ _ h2, m.up xx h3⟩⟩
theorem je_xf {z dd C : Addr} {oz : Obj} {pn : List (Addr × Obj)} {f : Str} {k : Nat} (T : XfC X.K C) (hno : PySem.W.findIn X.K (.ref C) f = some none) (hz : Zc (.ref C) (some dd) oz) (hf : ∃ us, oz.data = .fields us) (h : ss[k]? = some (.val (mExc z dd f m))) (hN : X.N[k]? = some nm)
    (hv : Vis X.env.scope nm := by first | exact Or.inl rfl | exact Or.inr (Or.inl rfl) | exact Or.inr (Or.inr rfl)) (hd : (nm == ("__debug__" : Str)) = false := by decide) (hcd : (nm == ("__classdict__" : Str)) = false := by decide)
    (hb : attributeBase (.Name nm q) f X.env (eval (.Name nm q) X.env) = eval (.Name nm q) X.env := by rfl) : JE (X.suite z ((z, oz) :: pn)) e (.Attribute (.Name nm q) f pos) ss m ss :=
  PE_mono (pe_xf T hno hz hf (pe_var (X := X.suite z ((z, oz) :: pn)) (i := k) hN hv hd hcd) hb) fun σ H Q ⟨F, I, K⟩ => by
    obtain ⟨o, h1, u, rfl, rfl, v, h2, h3⟩ := I.at_ k _ h
    exact ⟨_, h1, rfl, rfl, dd, _, v, rfl, I.sub _ _ h2, by simp [List.lookup], K v F H Ex.rfl I h3⟩
/-- what a class must say for isinstance of its caught instances -/
structure IsX (K : PySem.W.Frag) (C : Addr) : Prop where
  cl : (PySem.W.clsIn K C).isSome = true
  ga : PySem.W.findIn K (.ref C) "__getattribute__" = some (some (.builtin "BaseException.__getattribute__"))
  gg : PySem.W.findIn K (.ref C) "__getattr__" = some none
  sb : PySem.W.subIn K (.ref C) (.type "BaseException") = some true
  ha : PySem.W.findIn K (.ref C) "__class__" = some (some (.builtin "object.__class__"))
  hn : PySem.W.specialIn K (.builtin "object.__class__") "__get__" = some (some (.builtin "getset_descriptor.__get__"))
  ht : PySem.W.takesIn K (.builtin "object.__class__") = some true
  hm : PySem.W.mroIn K C (.type "object") = some true
theorem je_isX {z dd C D : Addr} {oz : Obj} {pn : List (Addr × Obj)} {f cn : Str} {k : Nat} {t : Bool} {q2 : Pos} (T : IsX X.K C) (hk : PySem.W.kitOne X.K (.ref C) (.ref D) = some t) (hz : Zc (.ref C) (some dd) oz) (hf : ∃ us, oz.data = .fields us) (h : ss[k]? = some (.val (mExc z dd f m))) (hN : X.N[k]? = some nm)
    (hm : X.mg "isinstance" = none) (hcm : X.mg cn = some (.ref D)) (hg : Gl X "isinstance" := by rfl) (hgc : Gl X cn := by rfl) (hcdb : (cn == ("__debug__" : Str)) = false := by decide)
    (hv : Vis X.env.scope nm := by first | exact Or.inl rfl | exact Or.inr (Or.inl rfl) | exact Or.inr (Or.inr rfl)) (hd : (nm == ("__debug__" : Str)) = false := by decide) (hcd : (nm == ("__classdict__" : Str)) = false := by decide)
    (hs : starEach [.Name nm q, .Name cn q2] X.env = (false, eval (.Name nm q) X.env) :: starEach [.Name cn q2] X.env := by rfl) (hs2 : starEach [.Name cn q2] X.env = (false, eval (.Name cn q2) X.env) :: starEach [] X.env := by rfl) (hpl : (backTo pos (starEach [.Name cn q2] X.env)).any (·.1) = false := by rfl) :
    JE (X.suite z ((z, oz) :: pn)) e (.Call (.Name "isinstance" p) [.Name nm q, .Name cn q2] [] pos) ss (mBool t) ss := by
  have C1 : CallR (X.suite z ((z, oz) :: pn)) (.builtin "isinstance") (fun xs G Q => ∃ fs, xs = [.ref z, .ref D] ∧ G dd = some (.xd fs) ∧ Q (.bl t) G) := by
    intro pins s σ G xs us Q I rr ⟨fs, hx, hG, hq⟩
    subst hx
    match us, rr with
    | [u1, u2], .cons r1 (.cons r2 .nil) =>
      obtain rfl : u1 = Value.ref z := r1
      obtain rfl : u2 = Value.ref D := r2
      obtain ⟨get, _⟩ := I.pin (z, oz) (List.mem_append_left _ List.mem_cons_self)
      obtain ⟨mA, hns, _⟩ := I.hok dd _ hG
      obtain ⟨od, ho, _⟩ := lookIn_ns hns
      obtain ⟨us, hu⟩ := hf
      have at_ : PySem.W.InstAt s.heap z oz C (some od) := ⟨get, hz.1, by unfold PySem.W.notCls; rw [hu] <;> rfl, by rw [hz.2]; exact ho⟩
      exact PySem.W.kia_one (PySem.W.kitx_exc T.cl T.ga T.gg T.sb T.ha T.hn T.ht T.hm) I.kIn at_ hk (fun w => nomatch w) fun tk => ⟨.bl t, G, I.kept (t' := tk) fun _ _ w => w, rfl, hq⟩
  exact PE_mono (pe_callB (X := X.suite z ((z, oz) :: pn)) C1 hg hm (by decide +kernel) (pa_cons (pe_var (X := X.suite z ((z, oz) :: pn)) (i := k) hN hv hd hcd) (pa_cons (pe_glob (v := .ref D) hgc hcm rfl hcdb) pa_nil hs2) hs) (by decide) (by decide) hs hpl) fun σ G Q ⟨F, I, K⟩ => by
    obtain ⟨o, h1, u, rfl, rfl, v, h2, h3⟩ := I.at_ k _ h
    exact ⟨_, h1, _, rfl, I.sub _ _ h2, K _ F G Ex.rfl I rfl⟩
/-! ### try -/
/-- the reading of the clause that takes it -/
def tsA (e : En) (ss : List Slot) (k : Nat) (C : Addr) (f : Str) (m : Mp) (r : Res) : Addr → Value → Option Addr → TS := fun z cls d D σ G => ∃ dd, cls = .ref C ∧ d = some dd ∧ rS e (ss.set k (.val (mExc z dd f m))) r D σ G
def tsNo : Addr → Value → Option Addr → TS := fun _ _ _ _ _ _ => False
theorem clause_no {bs : List Stmt} {z : Addr} {pn : List (Addr × Obj)} {cls : Value} {d : Option Addr} : PSs (X.suite z pn) bs (tsNo z cls d) := ⟨fun _ _ _ _ _ _ w => w.elim⟩
theorem clause_A {bs : List Stmt} {k : Nat} {C : Addr} {f : Str} {z : Addr} {pn : List (Addr × Obj)} {oz : Obj} {cls : Value} {d : Option Addr} (hz : Zc cls d oz) (hu : ∃ us, oz.data = .fields us)
    (h : ∀ dd, Zc (.ref C) (some dd) oz → JSs (X.suite z ((z, oz) :: pn)) e bs (ss.set k (.val (mExc z dd f m))) r) : PSs (X.suite z ((z, oz) :: pn)) bs (tsA e ss k C f m r z cls d) :=
  ⟨fun pins s σ G D I ⟨dd, h1, h2, h3⟩ => by
    subst h1 h2
    exact (h dd hz).run pins s σ G D I h3⟩
inductive Hits (K : PySem.W.Frag) (C : Addr) (ts : Addr → Value → Option Addr → TS) : List Cl1 → Prop
  | here {c : Value} {l : List Cl1} (h : PySem.W.exmOne K (.ref C) c = some true) : Hits K C ts ((c, ts) :: l)
  | next {c : Cl1} {l : List Cl1} (h : PySem.W.exmOne K (.ref C) c.1 = some false) (r : Hits K C ts l) : Hits K C ts (c :: l)
theorem js_tryX {k : Nat} {C : Addr} {f n : Str} {mz : Mp} {s2 : List Slot} {h0 : ExceptHandler} {hs : List ExceptHandler} {l : List Cl1} {ep : Pos} (hc : Clauses X n (h0 :: hs) l) (ht : Hits X.K C (tsA e ss1 k C f m (.rt mz s2)) l)
    (hx : ∀ (W : WX) (pn : List (Addr × Obj)) (xe : Value → Shared → Prop), Takes (X.tr pn xe) W → JX (X.tr pn xe) e W x ss (xpF C f m) ss1)
    (nd : X.N.Nodup) (at_ : X.N[k]? = some n) (loc : X.env.kindOf n = some .local := by rfl) (st : X.stack = X.env :: X.outer := by rfl) (fr : X.env.frame = some X.env.locals := by rfl) (hsw : swapsWith x none ep.line X.env = pure false := by rfl) :
    JS X e (.Try [.Expr x ep] (h0 :: hs) [] [] pos) ss (.rt mz s2) :=
  PS_mono (ps_tryAsMany (Wo := fun _ _ _ _ => False) st fr nd at_ loc takesNo (fun W pn xe tk _ => pss_one (ps_expr (hx W pn xe tk) hsw)) hc) fun D σ G ⟨F, I, K⟩ => ⟨F, I, fun cls d F1 G1 x1 I1 hp => by
    obtain ⟨rfl, dd, v, rfl, h2, h3⟩ := hp
    clear hx hc
    induction ht with
    | here h => exact ⟨true, h, fun _ z nz => ⟨dd, rfl, rfl, F1, I1.setV ⟨rfl, v, h2, h3⟩, fun v σ' F' H' x2 I2 hv => K v σ' F' H' (x1.trans x2) I2 hv⟩, fun w => nomatch w⟩
    | next h r ih => exact ⟨false, h, (fun w => nomatch w), fun _ => ih⟩⟩
/-! ### defs that ask for no guards -/
structure FnG (P : Program) (w : World) (K : PySem.W.Frag) (mg : Str → Option Value) (base : Heap) (k : Nat) (f : Addr) (fd : FuncData) (ps : List Str) (sp : Sp) : Prop where
  len : ∀ vs G Q E, sp vs G Q E → vs.length = ps.length
  run : ∀ (A : Around) (outer : List Env) (s : Shared) (G : Hp) (args : Args) (us : List Value) (vs : List V) (Q : VK) (E : XK), A.guards = some [] → Room k A → Env0 P w K mg base A outer s G → BindsTo s fd args (ps.zip us) → Vals vs us → sp vs G Q E →
    codeAny (model P w) A (.call (.ref f) args) (CR CX0 outer P w G s Q E) s
section
variable {P : Program} {w : World} {K : PySem.W.Frag} {mg : Str → Option Value} {base : Heap} {qual : Str} {params : Arguments} {bd : List Stmt} {scope : Scope} {dvs : List V} {kws : List (Str × V)} {f : Addr} {fd : FuncData} {N ps : List Str} {k : Nat} {sp : Sp} {ι : Type} {pre : ι → Prop} {ins : ι → List Mp} {out : ι → Mp} {b0 b1 : ι → Mo}
theorem fnG_of (D : FunD K nm qual params bd scope dvs kws f fd) (S : FnScope N ps scope) (hl : ∀ vs G Q E, sp vs G Q E → vs.length = ps.length)
    (hb : ∀ (cdv : Value) (A : Around) (outer : List Env) (s : Shared) (G : Hp) (vs : List V) (Q : VK) (E : XK), (A.deeper (envOfC qual scope s.heap.objs.size f cdv)).guards = some [] → Room k (A.deeper (envOfC qual scope s.heap.objs.size f cdv)) → sp vs G Q E →
      ∃ t, PSs (cxOf CX0 P w K mg base N qual scope f cdv A outer s G E) bd t ∧ t { nx := fun _ G' => Q .non G', rt := Q } (start N vs) G) : FnG P w K mg base (k + 1) f fd ps sp := by
  obtain ⟨c0, d0, dV, kV, dc, pm, an, cdv, ct, sl, rfl, lk, hcd, _, _⟩ := D.ex
  refine ⟨hl, fun A outer s G args us vs Q E hG hr e0 hbi rv hsp => ?_⟩
  have len := hl _ _ _ _ hsp
  have inK : K.In s.heap := e0.mod.kin.keeps fun b o z => (e0.bs b o z).1
  have kinds : ∀ y ∈ ps.zip us, scope.names.lookup y.1 = some .local ∨ (scope.names.lookup y.1 = some .cell ∧ ((cellsFrom (s.heap.objs.size + 1) scope.names []).lookup y.1).isSome = true) := fun ⟨y1, y2⟩ hy =>
    (S.par y1 (List.of_mem_zip hy).1).elim .inl fun z => .inr ⟨z, PySem.W.cellsFrom_some _ _ _ (.inl z)⟩
  refine codeAny_call_function hr.depth (inK _ _ lk) rfl S.co S.gen rfl (PySem.W.codeRec_of inK hcd) (hbi _ _ _ _ (wpAny_newFunctionEnv_cells S.kind kinds fun env he t1 ic => ?_))
  subst he
  refine ⟨(e0.mod.nolimit.keeps fun b o z => (e0.bs b o z).1).keeps ic.toInCall.keep, codeAny_func ?_⟩
  obtain ⟨t, ht, hq⟩ := hb cdv A outer s G vs Q E hG (hr.deeper _) hsp
  have I1 : Inv (cxOf CX0 P w K mg base N qual scope f cdv A outer s G E) [] (start N vs) G t1 := inv_start S hr.hd e0 len rv ic
  refine wpAny_mono (ht.run [] t1 (start N vs) G _ I1 hq) (fun fl t2 done => ?_) fun _ _ z => z
  have end_ : ∀ {τ : L2.St} {G2 : Hp} {v : V} {u : Value}, Inv (cxOf CX0 P w K mg base N qual scope f cdv A outer s G E) [] τ G2 t2 → RelV v u → Q v G2 → CE outer P w G s Q u t2 := fun {τ G2 v u} J rr qq => ⟨v, G2, J.os, J.bare, J.base, J.hok, rr, qq⟩
  match fl, done with
  | .ret u, ⟨v, τ, G2, J, rr, qq⟩ => exact end_ J rr qq
  | .next, ⟨τ, G2, J, qq⟩ => exact end_ (v := V.non) (u := Value.none) J rfl qq
  | .brk, ⟨_, _, _, qq⟩ => exact False.elim qq
  | .cont, ⟨_, _, _, qq⟩ => exact False.elim qq
theorem fnG_pure (D : FunD K nm qual params bd scope dvs kws f fd) (S : FnScope N ps scope) (hl : ∀ i, (ins i).length = ps.length) (hN : ps.length ≤ N.length)
    (hb : ∀ i, pre i → ∀ (cdv : Value) (A : Around) (outer : List Env) (s : Shared) (H : Hp) (E : XK) (e : En), (A.deeper (envOfC qual scope s.heap.objs.size f cdv)).guards = some [] → Room k (A.deeper (envOfC qual scope s.heap.objs.size f cdv)) →
      ∃ r ss', JSs (cxOf CX0 P w K mg base N qual scope f cdv A outer s H E).nox e bd (starts N ((ins i).map .val)) r ∧ RetsTo r (out i) ss') : FnG P w K mg base (k + 1) f fd ps (spP pre ins out) := by
  refine fnG_of D S (fun vs H Q E h => spP_len hl h) fun cdv A outer s H vs Q E hG hr hsp => ?_
  obtain ⟨i, hp, F, hs, hA, g⟩ := hsp
  obtain ⟨r, ss', hJ, hR⟩ := hb i hp cdv A outer s H E { f := F, h := H, m := fun _ => False, k := fun _ => none } hG hr
  refine ⟨_, PSs.nox hJ, F, fit_start hs hA (by rw [hl]; exact hN), ?_⟩
  cases hR with
  | rt => exact fun v σ' F' H' x I hv => g _ _ _ I.framed hv
  | nx h => exact fun σ' F' H' x I => g _ _ _ I.framed (by rw [h]; rfl)
theorem fnG_bor (D : FunD K nm qual params bd scope dvs kws f fd) (S : FnScope N ps scope) (hl : ∀ i, (ins i).length + 1 = ps.length) (hN : ps.length ≤ N.length)
    (hb : ∀ i, pre i → ∀ (cdv : Value) (A : Around) (outer : List Env) (s : Shared) (H : Hp) (E : XK) (e : En) (ad : Addr), (A.deeper (envOfC qual scope s.heap.objs.size f cdv)).guards = some [] → Room k (A.deeper (envOfC qual scope s.heap.objs.size f cdv)) →
      ∃ r ss', JSs (cxOf CX0 P w K mg base N qual scope f cdv A outer s H E).nox e bd (starts N (.bor ad (b0 i) :: (ins i).map .val)) r ∧ RetsTo r (out i) ss' ∧ ss'[0]? = some (.bor ad (b1 i))) :
    FnG P w K mg base (k + 1) f fd ps (spB pre b0 b1 ins out) := by
  refine fnG_of D S (fun vs H Q E h => spB_len hl h) fun cdv A outer s H vs Q E hG hr hsp => ?_
  obtain ⟨i, hp, F, ad, u, us, rfl, hs, hu, hf, hm, hA, g⟩ := hsp
  obtain ⟨r, ss', hJ, hR, h0⟩ := hb i hp cdv A outer s H E { f := F, h := H, m := fun b => b = ad, k := fun _ => none } ad hG hr
  refine ⟨_, PSs.nox hJ, F, fit_startB hs hA (by rw [hl]; exact hN) hu hf hm, ?_⟩
  have end_ : ∀ {v : V} {σ' : L2.St} {F' H' : Hp}, Ex F F' → Fit { f := F, h := H, m := fun b => b = ad, k := fun _ => none } ss' σ' F' H' → (out i).p F' v → Q v H' := fun xx I hv => by
    obtain ⟨_, _, _, _, _, _, u', h1, _, h2⟩ := I.at_ 0 _ h0
    refine g _ _ _ u' ⟨xx, I.sub, fun a o ne h => ?_, fun a h1 h2 => I.new a h1 h2⟩ h1 h2 hv
    rcases I.keep a o h with z | ⟨z, _⟩
    · exact z
    · exact absurd z ne
  cases hR with
  | rt => exact fun v σ' F' H' xx I hv => end_ xx I hv
  | nx h => exact fun σ' F' H' xx I => end_ xx I (by rw [h]; rfl)
end
section
variable {k k' : Nat} {f : Addr} {fd : FuncData} {ps : List Str} {sp : Sp} {E : XK} {es : List Expr} {t : TA} {ι : Type} {pre : ι → Prop} {ins : ι → List Mp} {out : ι → Mp} {b0 b1 : ι → Mo} {vn : Str}
theorem pe_callG (G : FnG X.prog X.w X.K X.mg X.base k f fd ps sp) (hG : X.A.guards = some []) (hr : Room k X.A) (hg : Gl X nm) (hm : X.mg nm = some (.ref f)) (hk : PySem.W.keepIn X.K (.ref f) = true) (hb : Binds X.K fd ps []) (ha : PA X (x :: es) t) (hdb : (nm == ("__debug__" : Str)) = false)
    (he : starEach (x :: es) X.env = (false, eval x X.env) :: starEach es X.env) (hpl : (backTo pos (starEach es X.env)).any (·.1) = false) : PE X (.Call (.Name nm p) (x :: es) [] pos) (tCall sp [] (fun _ _ _ => False) t) := by
  refine ⟨fun pins s σ H Q I h => wpAny_Call_Name_kw (ld_glob I hg hm ?_ hdb)⟩
  refine PySem.W.callWith_K (h₀ := X.base) I.ok.mod.kin hk (thn (ha.run pos pins s σ H _ I h) fun us t1 ⟨vs, H1, I1, r1, g1⟩ => ⟨I1.kIn, ?_⟩) he hpl
  have r2 : Vals (vs ++ []) (us ++ []) := r1.append .nil
  have len : (us ++ []).length = ps.length := by rw [← r2.length]; exact G.len _ _ _ _ g1
  refine wpAny_call (codeAny_mono (G.run X.A X.stack t1 H1 ⟨us, []⟩ (us ++ []) (vs ++ []) Q _ hG hr I1.env0 (hb t1 us I1.kIn len) r2 g1) fun res t2 done => ?_)
  match res, done with
  | .error er, done => exact done.elim
  | .ok (.ret u), done => exact I1.after done
  | .ok .next, done => exact done.elim
  | .ok .brk, done => exact done.elim
  | .ok .cont, done => exact done.elim
def HasG (P : Program) (w : World) (K : PySem.W.Frag) (mg : Str → Option Value) (base : Heap) (k : Nat) (nm : Str) (ps : List Str) (sp : Sp) : Prop :=
  ∃ fd, FnG P w K mg base k (He.ga K nm) fd ps sp ∧ Binds K fd ps [] ∧ mg nm = some (.ref (He.ga K nm)) ∧ PySem.W.keepIn K (.ref (He.ga K nm)) = true
theorem je_callG {i : ι} (G : HasG X.prog X.w X.K X.mg X.base k nm ps (spP pre ins out)) (hG : X.A.guards = some []) (hr : Room k' X.A) (hk : k ≤ k') (ha : JA X e (x :: es) ss ms ss1) (hp : pre i) {m : Mp} (hi : ins i = ms := by rfl) (hm : out i = m := by rfl) (hg : Gl X nm := by rfl) (hdb : (nm == ("__debug__" : Str)) = false := by decide)
    (he : starEach (x :: es) X.env = (false, eval x X.env) :: starEach es X.env := by rfl) (hpl : (backTo pos (starEach es X.env)).any (·.1) = false := by rfl) : JE X e (.Call (.Name nm p) (x :: es) [] pos) ss m ss1 := by
  obtain ⟨fd, G, B, hm', kp⟩ := G
  subst hm
  exact PE_mono (pe_callG G hG (hr.mono hk) hg hm' kp B ha hdb he hpl) fun σ H Q ⟨F, I, K⟩ => ⟨F, I, fun vs F1 H1 x1 I1 hA =>
    ⟨i, hp, F1, I1.sub, by rw [hi, List.append_nil]; exact hA, fun v F' H' fr hv => K v F' H' (x1.trans fr.f) (I1.called fr) hv⟩⟩
theorem je_callOG {i : ι} {q2 : Pos} {mo : Mo} (sl : Nat) (G : HasG X.prog X.w X.K X.mg X.base k nm ps (spB pre b0 b1 ins out)) (hG : X.A.guards = some []) (hr : Room k' X.A) (hk : k ≤ k') (ha : JA X e es ss ms ss1) (hp : pre i) (hs0 : ∃ m, ss[sl]? = some (.own m) := by exact ⟨_, rfl⟩) (hs : ss1[sl]? = some (.own mo) := by rfl) (hb0 : b0 i = mo := by rfl)
    (hi : ins i = ms := by rfl) {m : Mp} (hm : out i = m := by rfl) (hN : X.N[sl]? = some vn := by rfl) (hg : Gl X nm := by rfl) (hv : Vis X.env.scope vn := by first | exact Or.inl rfl | exact Or.inr (Or.inl rfl) | exact Or.inr (Or.inr rfl)) (hd : (vn == ("__debug__" : Str)) = false := by decide)
    (hcd : (vn == ("__classdict__" : Str)) = false := by decide) (hdb : (nm == ("__debug__" : Str)) = false := by decide) (he : starEach (.Name vn q2 :: es) X.env = (false, eval (.Name vn q2) X.env) :: starEach es X.env := by rfl) (hpl : (backTo pos (starEach es X.env)).any (·.1) = false := by rfl) :
    JE X e (.Call (.Name nm p) (.Name vn q2 :: es) [] pos) ss m (ss1.set sl (.own (b1 i))) := by
  obtain ⟨fd, G, B, hm', kp⟩ := G
  subst hm
  exact PE_mono (pe_callG G hG (hr.mono hk) hg hm' kp B (pa_cons (pe_var (i := sl) hN hv hd hcd) ha he) hdb he hpl) fun σ H Q ⟨F, I, K⟩ => by
    obtain ⟨m0, h0⟩ := hs0
    obtain ⟨o0, h1, ad, u, rfl, _⟩ := I.at_ sl _ h0
    refine ⟨_, h1, F, I, fun vs F1 H1 x1 I1 hA => ?_⟩
    obtain ⟨o2, g1, ad2, u2, rfl, g2, g3, _, _, g4⟩ := I1.at_ sl _ hs
    rw [h1] at g1
    cases g1
    refine ⟨i, hp, F1, ad, u2, vs ++ [], rfl, I1.sub, g2, g3, by rw [hb0]; exact g4, by rw [List.append_nil, hi]; exact hA, fun v F' H' u3 fr hu hmu hv => K v F' H' (x1.trans fr.f) (I1.calledO hs h1 fr hu hmu) hv⟩
end
end Jd

/-! text J26 -/
set_option Elab.async false
set_option linter.all false
set_option maxRecDepth 100000
set_option maxHeartbeats 4000000
namespace Jd
open PySem PySem.W L2 PySem.Spec PyProof.Rows
variable {X : Cx} {e : En} {ss ss' ss1 ss2 ss3 s0 : List Slot} {σ : L2.St} {F F' H H' : Hp} {a b c x y it elt tg : Expr} {pos p q : Pos} {m n o : Mp} {i j : Int} {ms : List Mp} {nm : Str} {st : Stmt} {rest body : List Stmt} {r : Res}
/-! ### None in a list of lists and Nones -/
inductive NonOr : List Mp → Bool → Prop where
  | nil : NonOr [] false
  | non {ms : List Mp} {t : Bool} (h : NonOr ms t) : NonOr (mNone :: ms) true
  | lst {ns ms : List Mp} {t : Bool} (h : NonOr ms t) : NonOr (mL ns :: ms) t
def isN : Value → Bool
  | .none => true
  | _ => false
theorem nonOr_eq {pins : List (Addr × Obj)} {s : Shared} {A : Around} (I : Inv X pins σ H s) (hu : A.units < cLine) (xx : Ex F H) : ∀ {ms : List Mp} {t : Bool} {vs : List V} {us : List Value}, NonOr ms t → allP F ms vs → Vals vs us → (∀ u ∈ us, SeqAt.EqAt A s u .none (isN u)) ∧ us.any isN = t
  | [], _, [], [], .nil, _, .nil => ⟨fun u hu => by (cases hu), rfl⟩
  | _ :: ms, _, v :: vs, u :: us, .non h, hA, .cons rv rr => by
    obtain ⟨k1, k2⟩ := nonOr_eq I hu xx h hA.2 rr
    have hv : v = .non := hA.1
    subst hv
    obtain rfl : u = Value.none := rv
    refine ⟨fun u' hu' => ?_, rfl⟩
    rcases List.mem_cons.mp hu' with rfl | z
    · have := eqAt_V (A := A) (s := s) (y := .non) (x := .non) (u := .none) (v := .none) rfl rfl rfl rfl
      exact this
    · exact k1 u' z
  | _ :: ms, t, v :: vs, u :: us, .lst h, hA, .cons rv rr => by
    obtain ⟨k1, k2⟩ := nonOr_eq I hu xx h hA.2 rr
    obtain ⟨ad, ws, hv, hR, _⟩ := hA.1
    subst hv
    obtain rfl : u = Value.ref ad := rv
    obtain ⟨its, _, pl, _⟩ := I.list (.inl (Rd.up xx hR))
    refine ⟨fun u' hu' => ?_, by rw [List.any_cons, k2]; rfl⟩
    rcases List.mem_cons.mp hu' with rfl | z
    · exact SeqAt.EqAt.list_none pl.isList hu
    · exact k1 u' z
def rNin (X : Cx) : R2 := fun x y H Q => ∃ (F : Hp) (ad : Addr) (vs : List V) (ms : List Mp) (t : Bool), x = .non ∧ y = .ref ad ∧ X.A.units + 2 < cLine ∧ Ex F H ∧ SqL X.K H ad vs ∧ allP F ms vs ∧ NonOr ms t ∧ Q (.bl t) H
theorem op_nin : OpR X (compareOp .In) (rNin X) := by
  intro pins s σ H x y v u Q I rx ry ⟨F, ad, vs, ms, t, hx, hy, hu, xx, hS, hA, hN, hq⟩
  subst hx hy
  obtain rfl : v = Value.none := rx
  obtain rfl : u = Value.ref ad := ry
  obtain ⟨its, rv, pl, _⟩ := I.list hS
  obtain ⟨k1, k2⟩ := nonOr_eq (A := X.A.in1) I (by show X.A.units + 1 < cLine; omega) xx hN hA rv
  refine SeqAt.in_listAt isN pl.isList (fun w hw => k1 w (by simpa using hw)) ⟨.bl t, H, I, ?_, hq⟩
  rw [show its.toArray.any isN = its.any isN by simp, k2]
  rfl
theorem jt_noneIn {t : Bool} {kk : Nat} {q : Pos} (ha : JP X e a ss ms ss1) (hN : NonOr ms t) (hu : X.A.units + 2 < cLine) (hm : behindInMarks .In a = false := by rfl) : JT X e (.Compare (.Constant .none kk q) [.In] [a] pos) ss t ss1 :=
  PT_mono (pt_cmpR op_nin pe_non ha hm) fun σ H Q ⟨F, I, k⟩ => ⟨F, I, fun ad F1 H1 x1 I1 hp => by
    obtain ⟨vs, hS, hA⟩ := Pk.get (K := X.K) I1 hp
    exact ⟨F1, ad, vs, ms, t, rfl, rfl, hu, I1.sub, hS, hA, hN, t, rfl, k F1 H1 x1 I1⟩⟩
/-! ### bools and ints of which little is told -/
def mBE : Mp := mE (fun _ : Bool => True) mBool
theorem je_eqE {k : Int} (ha : JE X e a ss (mRng k) ss1) (hb : JE X e b ss1 (mInt j) ss2) : JE X e (.Compare a [.Eq] [b] pos) ss mBE ss2 :=
  je_cmp (m := mRng k) (n := mInt j) (o := mBE) op_eq (fun F H x y Q _ ⟨i, _, hx⟩ hy h => by
    cases hx; cases hy
    exact ⟨rfl, h _ ⟨_, trivial, rfl⟩⟩) ha hb (nomark _)
def mIE (P : Int → Prop) : Mp := mE P mInt
theorem je_intBE (ha : JE X e a ss mBE ss1) (hm : X.mg "int" = none) (hg : Gl X "int" := by rfl) (hs : starEach [a] X.env = (false, eval a X.env) :: starEach [] X.env := by rfl) (hpl : (backTo pos (starEach [] X.env)).any (·.1) = false := by rfl) :
    JE X e (.Call (.Name "int" p) [a] [] pos) ss (mIE fun i => i = 0 ∨ i = 1) ss1 :=
  PE_mono (pe_callTy call_int1 hg hm (by decide +kernel) (ja1 ha hs) (by decide) (by decide) hs hpl) fun σ H Q ⟨F, I, k⟩ => ⟨F, I, fun vs F1 H1 x1 I1 hp => by
    match vs, hp with
    | [v], hp =>
      obtain ⟨⟨t, _, h1⟩, _⟩ := hp
      cases h1
      refine Or.inr ⟨t, rfl, k _ F1 H1 x1 I1 ⟨if t then 1 else 0, ?_, rfl⟩⟩
      cases t
      · exact .inl rfl
      · exact .inr rfl⟩
theorem je_subE {P Q' : Int → Prop} (ha : JE X e a ss (mInt i) ss1) (hb : JE X e b ss1 (mIE P) ss2) (h : ∀ j, P j → Q' (i - j)) : JE X e (.BinOp a .Sub b pos) ss (mIE Q') ss2 :=
  je_op (m := mInt i) (n := mIE P) (o := mIE Q') op_sub (fun F H x y Q _ hx ⟨j, hj, hy⟩ k => ⟨i, j, hx, hy, k _ ⟨i - j, h j hj, rfl⟩⟩) ha hb
theorem je_subR {k : Int} {Q' : Int → Prop} (ha : JE X e a ss (mRng k) ss1) (hb : JE X e b ss1 (mInt j) ss2) (h : ∀ i, 0 ≤ i ∧ i < k → Q' (i - j)) : JE X e (.BinOp a .Sub b pos) ss (mIE Q') ss2 :=
  je_op (m := mRng k) (n := mInt j) (o := mIE Q') op_sub (fun F H x y Q _ ⟨i, hi, hx⟩ hy k => ⟨i, j, hx, hy, k _ ⟨i - j, h i hi, rfl⟩⟩) ha hb
/-- a weaker promise -/
theorem Has.imp {P : Program} {w : World} {K : PySem.W.Frag} {mg : Str → Option Value} {base : Heap} {k : Nat} {ps : List Str} {sp sp' : Sp} (G : Has P w K mg base k nm ps sp) (h : ∀ vs H Q E, sp' vs H Q E → sp vs H Q E) : Has P w K mg base k nm ps sp' := by
  obtain ⟨fd, G, B, r⟩ := G
  exact ⟨fd, G.imp h, B, r⟩
/-! ### texts told by their letters -/
/-- so many letters, all of z -/
def mRw (z : Str) (lo hi : Nat) : Mp := mE (fun cs : List Nat => lo ≤ cs.length ∧ cs.length ≤ hi ∧ ∀ c ∈ cs, c ∈ z.cps.toList) (fun cs => mStr ⟨cs.toArray⟩)
theorem txt_len (cs : List Nat) : (⟨cs.toArray⟩ : Str).length = cs.length := by
  show cs.toArray.size = _
  simp
theorem txt_app (cs ds : List Nat) : (⟨cs.toArray⟩ : Str) ++ ⟨ds.toArray⟩ = ⟨(cs ++ ds).toArray⟩ := by
  show (⟨cs.toArray ++ ds.toArray⟩ : Str) = _
  simp
theorem txt_rep (cs : List Nat) : ∀ k : Nat, repS ⟨cs.toArray⟩ k = ⟨(List.replicate k cs).flatten.toArray⟩ := by
  have go : ∀ (k : Nat) (acc : Array Nat), (List.replicate k cs.toArray).foldl (· ++ ·) acc = acc ++ (List.replicate k cs).flatten.toArray := by
    intro k
    induction k with
    | zero => intro acc; simp
    | succ k ih => intro acc; rw [List.replicate_succ, List.foldl_cons, ih, List.replicate_succ]; simp
  intro k
  show (⟨(List.replicate k cs.toArray).foldl (· ++ ·) #[]⟩ : Str) = _
  rw [go]
  simp
theorem je_addRw {z : Str} {l1 h1 l2 h2 : Nat} (ha : JE X e a ss (mRw z l1 h1) ss1) (hb : JE X e b ss1 (mRw z l2 h2) ss2) (hh : h1 + h2 ≤ 100000) : JE X e (.BinOp a .Add b pos) ss (mRw z (l1 + l2) (h1 + h2)) ss2 :=
  je_op (m := mRw z l1 h1) (n := mRw z l2 h2) (o := mRw z (l1 + l2) (h1 + h2)) op_add_str (fun F H x y Q _ ⟨cs, ⟨c1, c2, c3⟩, hx⟩ ⟨ds, ⟨d1, d2, d3⟩, hy⟩ k => ⟨_, _, hx, hy, Evl.sz_of (by rw [txt_len, txt_len]; omega), k _ ⟨cs ++ ds, ⟨by rw [List.length_append]; omega, by rw [List.length_append]; omega, fun c hc => (List.mem_append.mp hc).elim (c3 c) (d3 c)⟩, by rw [txt_app]; rfl⟩⟩) ha hb
theorem je_mulRw {z : Str} {cs : List Nat} {P : Int → Prop} {lo hi : Nat} (ha : JE X e a ss (mStr ⟨cs.toArray⟩) ss1) (hb : JE X e b ss1 (mIE P) ss2) (hc : ∀ c ∈ cs, c ∈ z.cps.toList) (hl : cs.length ≤ 1000) (h : ∀ k, P k → 0 ≤ k ∧ k ≤ 10000 ∧ lo ≤ k.toNat * cs.length ∧ k.toNat * cs.length ≤ hi) : JE X e (.BinOp a .Mult b pos) ss (mRw z lo hi) ss2 :=
  je_op (m := mStr ⟨cs.toArray⟩) (n := mIE P) (o := mRw z lo hi) op_mulS (fun F H x y Q _ hx ⟨k, hk, hy⟩ kk => by
    obtain ⟨k1, k2, k3, k4⟩ := h k hk
    have len : (List.replicate k.toNat cs).flatten.length = k.toNat * cs.length := by simp
    refine ⟨_, k, hx, hy, k1, k2, by rw [txt_len]; exact hl, kk _ ⟨(List.replicate k.toNat cs).flatten, ⟨by rw [len]; exact k3, by rw [len]; exact k4, fun c hcc => ?_⟩, by rw [txt_rep]; rfl⟩⟩
    obtain ⟨l, hl1, hl2⟩ := List.mem_flatten.mp hcc
    rw [List.eq_of_mem_replicate hl1] at hl2
    exact hc c hl2) ha hb
theorem rw_row {z : Str} {n : Nat} : ∀ H v, (mE (fun cs : List Nat => (cs.length : Int) ≤ n ∧ ∀ c ∈ cs, c ∈ z.cps.toList) (fun cs => mStr ⟨cs.toArray⟩)).p H v → (mRw z 0 n).p H v := fun H v ⟨cs, ⟨h1, h2⟩, h3⟩ => ⟨cs, ⟨Nat.zero_le _, by omega, h2⟩, h3⟩
theorem rw_chr {z : Str} : ∀ H v, (mE (fun c : Nat => c ∈ z.cps.toList) (fun c => mStr (chrC c))).p H v → (mRw z 1 1).p H v := fun H v ⟨c, h1, h2⟩ => ⟨[c], ⟨Nat.le_refl 1, Nat.le_refl 1, fun x hx => by rw [List.mem_singleton.mp hx]; exact h1⟩, h2⟩
end Jd

/-! text D17 -/
set_option Elab.async false
set_option linter.all false
set_option maxRecDepth 100000
set_option maxHeartbeats 4000000
namespace Jd
open PySem L2 PySem.Spec PyProof.Rows
/-- keywords' values -/
abbrev JK (X : Cx) (e : En) (kws : List Keyword) (ss : List Slot) (ms : List Mp) (ss' : List Slot) : Prop := PK X kws (rA e ss ms ss')
theorem PK_mono {X : Cx} {x : List Keyword} {t t' : TA} (h : PK X x t) (k : ∀ σ H Q, t' σ H Q → t σ H Q) : PK X x t' := ⟨fun w pins s σ H Q I q => h.run w pins s σ H Q I (k _ _ _ q)⟩
section
variable {X : Cx} {e : En} {ss ss1 ss2 : List Slot} {x : Expr} {pos p kpos : Pos} {m : Mp} {ms ks' : List Mp} {k k' n : Nat} {ps ks : List Str} {ι : Type} {pre : ι → Prop} {ins : ι → List Mp} {out : ι → Mp} {nm : Str} {es : List Expr} {kws : List Keyword} {kn : Option Str}
theorem jw_orT {a b : Expr} {r : List Expr} (ha : JT X e a ss true ss1) : JW X e (.BoolOp .Or (a :: b :: r) pos) ss true ss1 := jw_or (t := true) (u := true) ha fun z => by cases z
theorem jk_nil : JK X e [] ss [] ss := PK_mono pk_nil fun σ H Q ⟨F, I, k⟩ => k _ F H Ex.rfl I trivial
theorem jk_cons (ha : JE X e x ss m ss1) (hr : JK X e kws ss1 ms ss2) : JK X e (⟨kn, x, kpos⟩ :: kws) ss (m :: ms) ss2 :=
  PK_mono (pk_cons ha hr) fun σ H Q ⟨F, I, k⟩ => ⟨F, I, fun v F1 H1 x1 I1 hv => ⟨F1, I1, fun vs F2 H2 x2 I2 hvs => k _ F2 H2 (x1.trans x2) I2 ⟨m.up x2 hv, hvs⟩⟩⟩
/-- a def with keyword-only parameters, all of them written -/
def HasK (P : Program) (w : World) (K : PySem.W.Frag) (mg : Str → Option Value) (base : Heap) (CX : CXT) (k : Nat) (nm : Str) (ps : List Str) (n : Nat) (ks : List Str) (sp : Sp) : Prop :=
  ∃ fd, FnOk P w K mg base CX k (He.ga K nm) fd ps sp ∧ KBn K fd ps n ks (fun us ws => us ++ ws) (fun vs zs => vs ++ zs) ∧ mg nm = some (.ref (He.ga K nm)) ∧ PySem.W.keepIn K (.ref (He.ga K nm)) = true
theorem je_callK {i : ι} (G : HasK X.prog X.w X.K X.mg X.base CX0 k nm ps n ks (spP pre ins out)) (hr : Room k' X.A) (hk : k ≤ k') (ha : JA X e (x :: es) ss ms ss1) (hkw : JK X e kws ss1 ks' ss2) (hp : pre i) {m : Mp} (hi : ins i = ms ++ ks' := by rfl) (hm : out i = m := by rfl) (hn : ms.length = n := by rfl) (hn2 : ks'.length = ks.length := by rfl) (hg : Gl X nm := by rfl)
    (hall : (backToKw pos (keywordEach kws X.env)).all (·.1.isSome) = true := by rfl) (hks : (backToKw pos (keywordEach kws X.env)).filterMap (·.1) = ks := by rfl)
    (hdb : (nm == ("__debug__" : Str)) = false := by decide) (he : starEach (x :: es) X.env = (false, eval x X.env) :: starEach es X.env := by rfl)
    (hpl : ((backTo pos (starEach (x :: es) X.env)).any (·.1) || (backToKw pos (keywordEach kws X.env)).any (·.1.isNone)) = false := by rfl) : JE X e (.Call (.Name nm p) (x :: es) kws pos) ss m ss2 := by
  obtain ⟨fd, G, B, hm', kp⟩ := G
  subst hm
  exact PE_mono (pe_callN (E := fun _ _ _ => False) G (hr.mono hk) hg hm' kp B pass0 ha hkw hall hks hdb he hpl) fun σ H Q ⟨F, I, K⟩ => ⟨F, I, fun vs F1 H1 x1 I1 hA => ⟨F1, I1, fun zs F2 H2 x2 I2 hz =>
    ⟨by rw [hA.length, hn], by rw [hz.length, hn2], i, hp, F2, I2.sub, by rw [hi]; exact (hA.up x2).append hz, fun v F' H' fr hv => K v F' H' (x1.trans (x2.trans fr.f)) (I2.called fr) hv⟩⟩⟩
end
theorem kbn_all {K : PySem.W.Frag} {x qual : Str} {params : Arguments} {body : List Stmt} {scope : Scope} {kws : List (Str × V)} {f : Addr} {fd : FuncData} {ps ks : List Str} {n : Nat} (F : FunD K x qual params body scope [] kws f fd)
    (h : ∀ (kV doc pm : Value) (an : Option Addr) (cdv ct : Value) (us ws : List Value), us.length = n → ws.length = ks.length → bindArgs (PySem.W.fnOf x qual params body scope .none kV doc pm an cdv ct) ⟨us, ks.zip ws⟩ = pure (ps.zip (us ++ ws))) : KBn K fd ps n ks (fun us ws => us ++ ws) (fun vs zs => vs ++ zs) := by
  obtain ⟨oc, od, dV, kV, doc, pm, an, cdv, ct, osl, rfl, lk, hcd, hD, hK⟩ := F.ex
  rcases hD with ⟨_, rfl⟩ | ⟨e, _⟩
  · exact ⟨fun s us ws _ h1 h2 => .of_eq (h kV doc pm an cdv ct us ws h1 h2), fun a b => a.append b⟩
  · exact absurd rfl e
end Jd
namespace Afw
open PySem L2 PySem.Spec PyProof.Rows Jd
variable {P : Program} {w : World} {K : PySem.W.Frag} {mg : Str → Option Value} {base : Heap}
theorem kb_judge_ring {fd : FuncData} (D : FunD K "judge_ring" "judge_ring" (defArgs (top 76)) (defBody (top 76)) (defScope (top 76)) [] [("counts", .non), ("gate", .non)] (He.ga K "judge_ring") fd) : KBn K fd ["tellers", "factors", "stem", "ring", "counts", "gate"] 4 ["counts", "gate"] (fun us ws => us ++ ws) (fun vs zs => vs ++ zs) :=
  kbn_all D fun _ _ _ _ _ _ us ws h1 h2 => match us, ws, h1, h2 with
    | [_, _, _, _], [_, _], _, _ => rfl
structure JrI where
  j : JrD
  T : Nat
  stem : Mp
  ring : Mp
  b : Bool
def JrD.cl (j : JrD) : Cl := clOf j.ds j.fs j.cs j.gs
/-- what judge_ring says of a stem and a ring -/
def judged (c : Cl) (z y : Str) : Bool := match behT c (sp0 c) z z.cps.size with
  | none => false
  | some (s, _) => match behT c s y y.cps.size with
    | none => false
    | some (s', g) => decide (s' = s) && decide (0 < g)
inductive JudR (c : Cl) : Mp → Mp → Bool → Prop where
  | stem {m r : Mp} (h : RowR c.asks m false) : JudR c m r false
  | ring {z : Str} {r : Mp} (h : RowR c.asks (mStr z) true) (h2 : RowR c.asks r false) : JudR c (mStr z) r false
  | empty {z : Str} (h : RowR c.asks (mStr z) true) : JudR c (mStr z) (mStr ⟨#[]⟩) false
  | rows {z y : Str} (h : RowR c.asks (mStr z) true) (h2 : RowR c.asks (mStr y) true) (h3 : y ≠ ⟨#[]⟩) : JudR c (mStr z) (mStr y) (judged c z y)
abbrev H_judge_ring (P : Program) (w : World) (K : PySem.W.Frag) (mg : Str → Option Value) (base : Heap) : Prop := HasK P w K mg base CX0 11 "judge_ring" ["tellers", "factors", "stem", "ring", "counts", "gate"] 4 ["counts", "gate"] (spP (fun i : JrI => JrOk i.j.ds i.j.fs i.j.cs i.j.gs ∧ SpEnd i.j.cl i.T ∧ i.T ≤ 900 ∧ JudR i.j.cl i.stem i.ring i.b)
  (fun i => [mT (i.j.ds.map (mStore K)), mLs i.j.fs, i.stem, i.ring, mLs i.j.cs, mGate K (i.j.ds.getD 0 d0).asks i.j.gs]) fun i => mBool i.b)
abbrev jrS (K : PySem.W.Frag) (j : JrD) (stem ring : Mp) : List Jd.Slot := [.val (mT (j.ds.map (mStore K))), .val (mLs j.fs), .val stem, .val ring, .val (mLs j.cs), .val (mGate K (j.ds.getD 0 d0).asks j.gs), .val (mMs K j.cl), .val (mWt j.cl), .val (gItems j.gs), .val (mStr j.cl.asks), .any, .any]
theorem rowR_nil {asks : Str} : RowR asks (mStr ⟨#[]⟩) true := by
  have := RowR.str (asks := asks) ⟨#[]⟩ (Nat.zero_le _)
  exact this
theorem ok_judge_ring (T : Tx K mg) (G1 : H_taken P w K mg base) (G2 : H_spot_web P w K mg base) (G3 : H_row_over P w K mg base) (G4 : H_spot_behind P w K mg base) : H_judge_ring P w K mg base := by
  obtain ⟨fd, D⟩ := T.D_judge_ring
  refine ⟨fd, fn_pure D sc_judge_ring (fun _ => rfl) (by decide) ?_, kb_judge_ring D, T.g_judge_ring, D.kp⟩
  rintro ⟨j, N, stem, ring, b⟩ ⟨h, hE, hN, hR⟩ cdv A outer s H E e hr
  dsimp only at h hE hN hR ⊢
  have hc : ClOk j.cl := clOf_ok h
  have hm := hc.m
  have hsp := sp0_ok hc
  have hu : (cxOf CX0 P w K mg base N_judge_ring "judge_ring" (defScope (top 76)) (He.ga K "judge_ring") cdv A outer s H E).nox.A.units + 64 < cLine := room_u hr
  have hz : mT (List.replicate ((j.cl.ms.length : Int) + 1).toNat (mInt 0)) = mNs (sp0 j.cl) := by
    show _ = mT (List.map mInt (sp0 j.cl))
    unfold sp0
    rw [List.map_replicate]
    rfl
  have pre : ∀ {rest : List Stmt} {a1 a2 a3 : Stmt}, True := fun {_ _ _ _} => trivial
  cases hR with
  | stem hs =>
    exact ⟨_, _, js_cons (js_asg (je_callH (i := j) G1 hr (by omega) (ja_cons (jv 0) (ja_cons (jv 1) (ja_cons (jv 4) (ja1 (jv 5))))) h) (jg_tup (jgs_cons (jgn 6 sc_judge_ring.nd) (jgs_cons (jgn 7 sc_judge_ring.nd) (jgs_cons (jgn 8 sc_judge_ring.nd) jgs_nil)))))
      (js_cons (js_expr (je_callHD (i := (j.cl, N)) (msd := [mInt 1000]) G2 (by exact fun _ => ⟨rfl, trivial⟩) hr (by omega) (ja_cons (jv 6) (ja_cons (jv 7) (ja1 (jv 8)))) ⟨hc, hE, hN⟩))
      (js_cons (jset 9 (je_fld (je_ixLF (f := fun m => mMach K j.cl.asks m.1 m.2) (xs := j.cl.ms) (0, []) 0 (jpv 6) je_int rfl (by omega)) rfl T.c_Machine T.n_Machine_asks) sc_judge_ring.nd)
      (js_rt (js_if (t := true) (jt_w (jw_orT (jt_of (jt_not (jt_val (je_callH (i := (j.cl.asks, stem, false)) G3 hr (by omega) (ja_cons (jv 9) (ja1 (jv 2))) hs))) (by rfl)))) (fun _ => js_one (js_ret je_bool)) fun z => by cases z)))), .rt⟩
  | ring h1 h2 =>
    rename_i z
    exact ⟨_, _, js_cons (js_asg (je_callH (i := j) G1 hr (by omega) (ja_cons (jv 0) (ja_cons (jv 1) (ja_cons (jv 4) (ja1 (jv 5))))) h) (jg_tup (jgs_cons (jgn 6 sc_judge_ring.nd) (jgs_cons (jgn 7 sc_judge_ring.nd) (jgs_cons (jgn 8 sc_judge_ring.nd) jgs_nil)))))
      (js_cons (js_expr (je_callHD (i := (j.cl, N)) (msd := [mInt 1000]) G2 (by exact fun _ => ⟨rfl, trivial⟩) hr (by omega) (ja_cons (jv 6) (ja_cons (jv 7) (ja1 (jv 8)))) ⟨hc, hE, hN⟩))
      (js_cons (jset 9 (je_fld (je_ixLF (f := fun m => mMach K j.cl.asks m.1 m.2) (xs := j.cl.ms) (0, []) 0 (jpv 6) je_int rfl (by omega)) rfl T.c_Machine T.n_Machine_asks) sc_judge_ring.nd)
      (js_rt (js_if (jt_w (jw_or (jt_not (jt_val (je_callH (i := (j.cl.asks, mStr z, true)) G3 hr (by omega) (ja_cons (jv 9) (ja1 (jv 2))) h1))) fun _ => jw_orT (jt_of (jt_not (jt_val (je_callH (i := (j.cl.asks, ring, false)) G3 hr (by omega) (ja_cons (jv 9) (ja1 (jv 3))) h2))) (by rfl)))) (fun _ => js_one (js_ret je_bool)) fun z => by cases z)))), .rt⟩
  | empty h1 =>
    rename_i z
    exact ⟨_, _, js_cons (js_asg (je_callH (i := j) G1 hr (by omega) (ja_cons (jv 0) (ja_cons (jv 1) (ja_cons (jv 4) (ja1 (jv 5))))) h) (jg_tup (jgs_cons (jgn 6 sc_judge_ring.nd) (jgs_cons (jgn 7 sc_judge_ring.nd) (jgs_cons (jgn 8 sc_judge_ring.nd) jgs_nil)))))
      (js_cons (js_expr (je_callHD (i := (j.cl, N)) (msd := [mInt 1000]) G2 (by exact fun _ => ⟨rfl, trivial⟩) hr (by omega) (ja_cons (jv 6) (ja_cons (jv 7) (ja1 (jv 8)))) ⟨hc, hE, hN⟩))
      (js_cons (jset 9 (je_fld (je_ixLF (f := fun m => mMach K j.cl.asks m.1 m.2) (xs := j.cl.ms) (0, []) 0 (jpv 6) je_int rfl (by omega)) rfl T.c_Machine T.n_Machine_asks) sc_judge_ring.nd)
      (js_rt (js_if (jt_w (jw_or (jt_not (jt_val (je_callH (i := (j.cl.asks, mStr z, true)) G3 hr (by omega) (ja_cons (jv 9) (ja1 (jv 2))) h1))) fun _ => jw_or (jt_not (jt_val (je_callH (i := (j.cl.asks, mStr ⟨#[]⟩, true)) G3 hr (by omega) (ja_cons (jv 9) (ja1 (jv 3))) rowR_nil))) fun _ => jw_one (jt_eqS (s := ⟨#[]⟩) (t := ⟨#[]⟩) (jv 3) je_str))) (fun _ => js_one (js_ret je_bool)) fun z => by cases z)))), .rt⟩
  | rows h1 h2 h3 =>
    rename_i z y
    have hb0 := beh_ok hc hsp (z := z) z.cps.size
    refine ⟨_, jrS K j (mStr z) (mStr y), js_cons (js_asg (je_callH (i := j) G1 hr (by omega) (ja_cons (jv 0) (ja_cons (jv 1) (ja_cons (jv 4) (ja1 (jv 5))))) h) (jg_tup (jgs_cons (jgn 6 sc_judge_ring.nd) (jgs_cons (jgn 7 sc_judge_ring.nd) (jgs_cons (jgn 8 sc_judge_ring.nd) jgs_nil)))))
      (js_cons (js_expr (je_callHD (i := (j.cl, N)) (msd := [mInt 1000]) G2 (by exact fun _ => ⟨rfl, trivial⟩) hr (by omega) (ja_cons (jv 6) (ja_cons (jv 7) (ja1 (jv 8)))) ⟨hc, hE, hN⟩))
      (js_cons (jset 9 (je_fld (je_ixLF (f := fun m => mMach K j.cl.asks m.1 m.2) (xs := j.cl.ms) (0, []) 0 (jpv 6) je_int rfl (by omega)) rfl T.c_Machine T.n_Machine_asks) sc_judge_ring.nd)
      (js_cons (js_if (jt_w (jw_or (jt_not (jt_val (je_callH (i := (j.cl.asks, mStr z, true)) G3 hr (by omega) (ja_cons (jv 9) (ja1 (jv 2))) h1))) fun _ => jw_or (jt_not (jt_val (je_callH (i := (j.cl.asks, mStr y, true)) G3 hr (by omega) (ja_cons (jv 9) (ja1 (jv 3))) h2))) fun _ => jw_one (jt_eqS (t := ⟨#[]⟩) (jv 3) je_str))) (fun n => ?_) fun _ => js_nil)
      (js_cons (jset 10 (je_callH (i := (j.cl, sp0 j.cl, z)) G4 hr (by omega) (ja_cons (jv 6) (ja_cons (jv 7) (ja_cons (jv 8) (ja_cons (je_of (je_tupOf (jp_of (je_fz (jo_rep (je_fzl (jo_lst (ja1 je_int) (Nat.le_of_ble_eq_true rfl))) (je_add (je_of (je_lenL (jpv 6) T.b_len) (by rw [List.length_map]; rfl)) je_int) (by omega) (by omega)))) T.b_tuple) hz) (ja1 (jv 2)))))) ⟨hc, hsp⟩) sc_judge_ring.nd) ?_)))), .of rfl⟩
    · have n : (false || (false || decide (y = ⟨#[]⟩))) = true := n
      rw [decide_eq_false h3] at n
      cases n
    · show JSs _ _ _ ((jrS K j (mStr z) (mStr y)).set 10 (.val (mRes (behT j.cl (sp0 j.cl) z z.cps.size)))) (.rt (mBool (judged j.cl z y)) _)
      unfold judged
      cases q1 : behT j.cl (sp0 j.cl) z z.cps.size with
      | none => exact js_weakR (js_rt (js_if (t := true) (jt_isN (jv 10) nonB_none) (fun _ => js_one (js_ret je_bool)) fun n => by cases n)) (by repeat (first | exact Le.nil | refine Le.same ?_ | refine Le.drop ?_))
      | some p =>
        obtain ⟨s1, t1⟩ := p
        have hs1 := hb0 s1 t1 q1
        have st : ∀ (o : Option (List Int × Int)), o = behT j.cl s1 y y.cps.size → (match o with
          | none => false
          | some (s', g) => decide (s' = s1) && decide (0 < g)) = (match behT j.cl s1 y y.cps.size with
          | none => false
          | some (s', g) => decide (s' = s1) && decide (0 < g)) := fun o ho => by rw [ho]
        refine js_cons (js_if (t := false) (jt_isN (jv 10) nonB_T) (fun n => by cases n) fun _ => js_nil)
          (js_cons (jset 11 (je_callH (i := (j.cl, s1, y)) G4 hr (by omega) (ja_cons (jv 6) (ja_cons (jv 7) (ja_cons (jv 8) (ja_cons (je_ixT (ms := [mNs s1, mInt t1]) (i := 0) (m := mNs s1) (jv 10) je_int rfl) (ja1 (jv 3)))))) ⟨hc, hs1⟩) sc_judge_ring.nd) ?_)
        show JSs _ _ _ ((((jrS K j (mStr z) (mStr y)).set 10 (.val (mRes (some (s1, t1))))).set 11 (.val (mRes (behT j.cl s1 y y.cps.size))))) (.rt (mBool (match behT j.cl s1 y y.cps.size with
          | none => false
          | some (s', g) => decide (s' = s1) && decide (0 < g))) _)
        cases q2 : behT j.cl s1 y y.cps.size with
        | none => exact js_weakR (js_one (js_ret (je_of (je_and (t := !true) (u := true) (je_notN (jv 11) nonB_none) fun z => by cases z) rfl))) (by repeat (first | exact Le.nil | refine Le.same ?_ | refine Le.drop ?_))
        | some p2 =>
          obtain ⟨s2, g2⟩ := p2
          exact js_weakR (js_one (js_ret (je_of (je_and (t := !false) (je_notN (jv 11) nonB_T) fun _ => je_and (je_eqT hu (je_ixT (ms := [mNs s2, mInt g2]) (i := 0) (m := mNs s2) (jv 11) je_int rfl) (je_ixT (ms := [mNs s1, mInt t1]) (i := 0) (m := mNs s1) (jv 10) je_int rfl)) fun _ => je_one (je_gtI (je_ixT (ms := [mNs s2, mInt g2]) (i := 1) (m := mInt g2) (jv 11) je_int rfl) je_int)) (by rfl)))) (by repeat (first | exact Le.nil | refine Le.same ?_ | refine Le.drop ?_))
end Afw

/-! text D18 -/
set_option Elab.async false
set_option linter.all false
set_option maxRecDepth 100000
set_option maxHeartbeats 4000000
namespace Jd
open PySem L2 PySem.Spec PyProof.Rows
section
variable {X : Cx} {e : En} {ss ss1 ss2 : List Slot} {x : Expr} {pos p : Pos} {ms : List Mp} {k k' : Nat} {ps : List Str} {ι : Type} {pre : ι → Prop} {ins : ι → List Mp} {out : ι → Mp} {outO b0 b1 : ι → Mo} {nm vn : Str} {es : List Expr} {m : Mp} {mo : Mo} {q : Pos}
theorem je_callS {i : ι} (sl : Nat) (G : Has X.prog X.w X.K X.mg X.base k nm ps (spB pre b0 b1 ins out)) (hr : Room k' X.A) (hk : k ≤ k') (ha : JA X e es ss ms ss1) (hp : pre i) (h : ss1[sl]? = some (.own mo) := by rfl) (h0 : ∃ m, ss[sl]? = some (.own m) := by exact ⟨_, rfl⟩) (hb0 : b0 i = mo := by rfl) (hb1 : b1 i = mo := by rfl)
    (hi : ins i = ms := by rfl) (hm : out i = m := by rfl) (hN : X.N[sl]? = some vn := by rfl) (hg : Gl X nm := by rfl) (hv : Vis X.env.scope vn := by first | exact Or.inl rfl | exact Or.inr (Or.inl rfl) | exact Or.inr (Or.inr rfl)) (hd : (vn == ("__debug__" : Str)) = false := by decide)
    (hcd : (vn == ("__classdict__" : Str)) = false := by decide) (hdb : (nm == ("__debug__" : Str)) = false := by decide) (he : starEach (.Name vn q :: es) X.env = (false, eval (.Name vn q) X.env) :: starEach es X.env := by rfl) (hpl : (backTo pos (starEach es X.env)).any (·.1) = false := by rfl) :
    JE X e (.Call (.Name nm p) (.Name vn q :: es) [] pos) ss m ss1 := by
  obtain ⟨fd, G, B, hm', kp⟩ := G
  subst hm
  have := je_callO (i := i) (sl := sl) G (hr.mono hk) hm' kp B h0 hN (by rw [hi]; exact ha) (by rw [hb0]; exact h) hp hg hv hd hcd hdb he hpl (p := p) (pos := pos) (e := e) (q := q)
  rw [hb1, set_self h] at this
  exact this
theorem je_callSB {i : ι} {ad : Addr} (sl : Nat) (G : Has X.prog X.w X.K X.mg X.base k nm ps (spB pre b0 b1 ins out)) (hr : Room k' X.A) (hk : k ≤ k') (ha : JA X e es ss ms ss1) (hp : pre i) (h : ss1[sl]? = some (.bor ad mo) := by rfl) (h0 : ∃ m, ss[sl]? = some (.bor ad m) := by exact ⟨_, rfl⟩) (hb0 : b0 i = mo := by rfl) (hb1 : b1 i = mo := by rfl)
    (hi : ins i = ms := by rfl) (hm : out i = m := by rfl) (hN : X.N[sl]? = some vn := by rfl) (hg : Gl X nm := by rfl) (hv : Vis X.env.scope vn := by first | exact Or.inl rfl | exact Or.inr (Or.inl rfl) | exact Or.inr (Or.inr rfl)) (hd : (vn == ("__debug__" : Str)) = false := by decide)
    (hcd : (vn == ("__classdict__" : Str)) = false := by decide) (hdb : (nm == ("__debug__" : Str)) = false := by decide) (he : starEach (.Name vn q :: es) X.env = (false, eval (.Name vn q) X.env) :: starEach es X.env := by rfl) (hpl : (backTo pos (starEach es X.env)).any (·.1) = false := by rfl) :
    JE X e (.Call (.Name nm p) (.Name vn q :: es) [] pos) ss m ss1 := by
  obtain ⟨fd, G, B, hm', kp⟩ := G
  subst hm
  have := je_callBr (i := i) (sl := sl) G (hr.mono hk) hm' kp B h0 hN (by rw [hi]; exact ha) (by rw [hb0]; exact h) hp hg hv hd hcd hdb he hpl (p := p) (pos := pos) (e := e) (q := q)
  rw [hb1, set_self h] at this
  exact this
theorem je_callFH {i : ι} (G : Has X.prog X.w X.K X.mg X.base k nm ps (spB pre b0 b1 ins out)) (hr : Room k' X.A) (hk : k ≤ k') (h0 : JO X e x ss mo ss1) (ha : ∀ kk, JA X (e.kp kk) es ss1 ms ss2) (hp : pre i) (hmo : b0 i = mo := by rfl) (hi : ins i = ms := by rfl) (hm : out i = m := by rfl) (hg : Gl X nm := by rfl) (hdb : (nm == ("__debug__" : Str)) = false := by decide)
    (he : starEach (x :: es) X.env = (false, eval x X.env) :: starEach es X.env := by rfl) (hpl : (backTo pos (starEach es X.env)).any (·.1) = false := by rfl) : JE X e (.Call (.Name nm p) (x :: es) [] pos) ss m ss2 := by
  obtain ⟨fd, G, B, hm', kp⟩ := G
  subst hm
  exact je_callF (i := i) G (hr.mono hk) hm' kp B h0 (fun kk => by rw [hi]; exact ha kk) hmo hp hg hdb he hpl
theorem jo_callH {i : ι} (G : Has X.prog X.w X.K X.mg X.base k nm ps (spF pre ins outO)) (hr : Room k' X.A) (hk : k ≤ k') (ha : JA X e (x :: es) ss ms ss1) (hp : pre i) (hi : ins i = ms := by rfl) (hm : outO i = mo := by rfl) (hg : Gl X nm := by rfl) (hdb : (nm == ("__debug__" : Str)) = false := by decide)
    (he : starEach (x :: es) X.env = (false, eval x X.env) :: starEach es X.env := by rfl) (hpl : (backTo pos (starEach es X.env)).any (·.1) = false := by rfl) : JO X e (.Call (.Name nm p) (x :: es) [] pos) ss mo ss1 := by
  obtain ⟨fd, G, B, hm', kp⟩ := G
  subst hm
  exact jo_callN (i := i) G (hr.mono hk) hm' kp B (by rw [hi]; exact ha) hp hg hdb he hpl
/-- xs[j] = v, xs lent -/
theorem jsetB (s jx : Nat) {ad : Addr} {y : Expr} {j : Int} {p1 : Pos} (he : JE X e x ss m ss1) (hj : JE X e y ss1 (mInt j) ss2) (hi : j = (jx : Int)) (hs : ss2[s]? = some (.bor ad (oL ms)) := by rfl) (hs0 : ∃ ms0, ss1[s]? = some (.bor ad (oL ms0)) := by exact ⟨_, rfl⟩) (hl : jx < ms.length := by first | omega | (simp; done) | (simp; omega)) (hN : X.N[s]? = some nm := by rfl)
    (hv : Vis X.env.scope nm := by first | exact Or.inl rfl | exact Or.inr (Or.inl rfl) | exact Or.inr (Or.inr rfl)) (hd : (nm == ("__debug__" : Str)) = false := by decide) (hcd : (nm == ("__classdict__" : Str)) = false := by decide)
    (ha : ∀ v, assign (.Subscript (.Name nm p) y p1) X.env v = (do
      let ov ← holding [v] (eval (.Name nm p) X.env)
      let iv ← holding [v, ov] (eval y X.env)
      standAt p1
      holding [v, ov, iv] (setItem ov iv v)
      release [v, ov, iv] []) := by intro _; rfl)
    (h1 : swapsWithSole [.Subscript (.Name nm p) y p1] x pos.line X.env = pure false := by rfl) (h2 : swappedStores [.Subscript (.Name nm p) y p1] x X.env = pure none := by rfl)
    (h3 : (assignEach [.Subscript (.Name nm p) y p1] X.env).map (·.2) = [assign (.Subscript (.Name nm p) y p1) X.env] := by rfl) :
    JS X e (.Assign [.Subscript (.Name nm p) y p1] x pos) ss (.nx (ss2.set s (.bor ad (oL (ms.set jx m))))) :=
  js_setB he hj hs hs0 (by rw [hi]; exact ixN_nat hl) hN hv hd hcd ha h1 h2 h3
end
end Jd
namespace Afw
open PySem L2 PySem.Spec PyProof.Rows Jd
variable {P : Program} {w : World} {K : PySem.W.Frag} {mg : Str → Option Value} {base : Heap}
def oSrc : Mo := oE (fun _ : Int × Int × Int => True) fun t => oL [mInt t.1, mInt t.2.1, mInt t.2.2]
theorem oSrc_in {x y z : Int} : ∀ F a o, (oL [mInt x, mInt y, mInt z]).p F a o → oSrc.p F a o := fun F a o h => ⟨(x, y, z), trivial, h⟩
abbrev H_law_draw (P : Program) (w : World) (K : PySem.W.Frag) (mg : Str → Option Value) (base : Heap) : Prop := Has P w K mg base 1 "_law_draw" ["_law_source_here", "_law_many"] (Jd.spB (fun n : Int => 0 < n ∧ n < 1000000) (fun _ => oSrc) (fun _ => oSrc) (fun n => [mInt n]) fun n => mRng n)
theorem ok_law_draw (T : Tx K mg) : H_law_draw P w K mg base := by
  obtain ⟨fd, D, B⟩ := T.D_law_draw
  refine ⟨fd, fn_bor D sc_law_draw (fun _ => rfl) (by decide) ?_, B, T.g_law_draw, D.kp⟩
  rintro n ⟨h0, h1⟩ cdv A outer s H E e ad hr
  refine ⟨.rt (mRng n) [.bor ad oSrc, .any, .any, .any], [.bor ad oSrc, .any, .any, .any], js_exB 0 (fun t _ => ?_), .rt, rfl⟩
  obtain ⟨x, y, z⟩ := t
  have hm1 : ∀ a b : Int, 0 < b → 0 ≤ a % b ∧ a % b < b := fun a b hb => ⟨Int.emod_nonneg _ (by omega), Int.emod_lt_of_pos _ hb⟩
  by_cases hx : 0 < x
  · refine js_rt (js_if (jt_gt (je_ix (jpb 0) (i := 0) (m := mInt x) je_int rfl) je_int) (fun _ => ?_) fun q => absurd hx (of_decide_eq_false q))
    exact js_weakR (js_sub1R 0 (js_cons (jset 2 (je_mod (je_intI (je_ix (jpb 0) (i := 0) (m := mInt x) je_int rfl) T.b_int) (jv 1) h0) sc_law_draw.nd)
      (js_cons (jsetB 0 0 (je_fdiv (je_ix (jpb 0) (i := 0) (m := mInt x) je_int rfl) (jv 1) ⟨h0, by omega⟩) je_int rfl) (js_one (js_ret (je_weak (jv 2) (mE_in (p := fun i : Int => 0 ≤ i ∧ i < n) (hm1 x n h0))))))) (.B oSrc_in)) (by repeat (first | exact Le.nil | refine Le.same ?_ | refine Le.drop ?_))
  · refine js_cons (js_if (jt_gt (je_ix (jpb 0) (i := 0) (m := mInt x) je_int rfl) je_int) (fun q => absurd (of_decide_eq_true q) hx) fun _ => js_nil) ?_
    have r1 := hm1 (y * 48271 + (z + 1) * 69621 + 11) 2147483647 (by omega)
    exact js_weakR (js_sub1R 0 (js_cons (jsetB 0 2 (je_add (je_ix (jpb 0) (i := 2) (m := mInt z) je_int rfl) je_int) je_int rfl)
      (js_cons (jsetB 0 1 (je_mod (je_intI (je_add (je_add (je_mul (je_ix (jpb 0) (i := 1) (m := mInt y) je_int rfl) je_int (.inr (by decide))) (je_mul (je_ix (jpb 0) (i := 2) (m := mInt (z + 1)) je_int rfl) je_int (.inr (by decide)))) je_int) T.b_int) je_int (by decide)) je_int rfl)
      (js_cons (jset 3 (je_mod (je_intI (je_add (je_mul (je_ix (jpb 0) (i := 1) (m := mInt ((y * 48271 + (z + 1) * 69621 + 11) % 2147483647)) je_int rfl) (je_add (je_ix (jpb 0) (i := 1) (m := mInt ((y * 48271 + (z + 1) * 69621 + 11) % 2147483647)) je_int rfl) je_int) (.inl (by omega))) (je_mul (je_ix (jpb 0) (i := 2) (m := mInt (z + 1)) je_int rfl) je_int (.inr (by decide)))) T.b_int) je_int (by decide)) sc_law_draw.nd)
      (js_one (js_ret (je_weak (je_mod (je_intI (je_fdiv (jv 3) je_int ⟨by decide, by decide⟩) T.b_int) (jv 1) h0) (mE_in (p := fun i : Int => 0 ≤ i ∧ i < n) (hm1 _ n h0)))))))) (.B oSrc_in)) (by repeat (first | exact Le.nil | refine Le.same ?_ | refine Le.drop ?_))
end Afw

/-! text D19 -/
set_option Elab.async false
set_option linter.all false
set_option maxRecDepth 100000
set_option maxHeartbeats 4000000
namespace Afw
open PySem L2 PySem.Spec PyProof.Rows Jd
variable {P : Program} {w : World} {K : PySem.W.Frag} {mg : Str → Option Value} {base : Heap}
abbrev H_law_cell (P : Program) (w : World) (K : PySem.W.Frag) (mg : Str → Option Value) (base : Heap) : Prop := Has P w K mg base 1 "_law_cell" ["_law_script", "_law_k"] (spP (fun p : List Int × Nat => p.2 ≤ 1000) (fun p => [mLs p.1, mNat p.2]) fun _ => mAI)
theorem ok_law_cell (T : Tx K mg) : H_law_cell P w K mg base := by
  obtain ⟨fd, D, B⟩ := T.D_law_cell
  refine ⟨fd, fn_pure D sc_law_cell (fun _ => rfl) (by decide) ?_, B, T.g_law_cell, D.kp⟩
  rintro ⟨ns, k⟩ hk cdv A outer s H E e hr
  dsimp only at hk ⊢
  by_cases h : k < ns.length
  · exact ⟨_, _, js_rt (js_if (jt_lt (jv 1) (je_lenL (jpv 0) T.b_len)) (fun _ => js_one (js_ret (je_weak (je_ixLF (f := mInt) (xs := ns) 0 k (jpv 0) (jv 1) rfl h) mAI_in))) fun z => by
      have z := of_decide_eq_false z
      rw [List.length_map] at z
      omega), .of (by rfl)⟩
  · refine ⟨_, _, js_cons (js_if (jt_lt (jv 1) (je_lenL (jpv 0) T.b_len)) (fun z => ?_) fun _ => js_nil)
      (js_one (js_ret (je_weak (je_add (je_mul je_int (je_add (jv 1) je_int) (.inl (by decide))) (je_mul je_int (je_mod (je_intI (je_sum (ns := (ns.drop (HT.sIx ns.length 0 none)).take (HT.sIx ns.length ns.length (some 1) - HT.sIx ns.length 0 none)) (jp_of (je_of (je_fz (jo_slL (l := none) (h := some 1) (jpv 0) po_none (po_some pe_int) (fun _ _ _ q => q) (fun σ H Q q => ⟨1, rfl, q⟩))) ?_)) T.b_sum) T.b_int) je_int (by decide)) (.inl (by decide)))) mAI_in))), .of (by rfl)⟩
    · have z := of_decide_eq_true z
      rw [List.length_map] at z
      omega
    · rw [List.length_map, List.map_take, List.map_drop]
abbrev H_law_source (P : Program) (w : World) (K : PySem.W.Frag) (mg : Str → Option Value) (base : Heap) : Prop := Has P w K mg base 2 "_law_source" ["_law_script", "_law_k"] (spF (fun p : List Int × Nat => p.2 ≤ 1000) (fun p => [mLs p.1, mNat p.2]) fun _ => oSrc)
theorem oE_in {α : Type} {p : α → Prop} {f : α → Mo} {z : α} (hp : p z) : ∀ F a o, (f z).p F a o → (oE p f).p F a o := fun F a o h => ⟨z, hp, h⟩
theorem jo_weak {X : Cx} {e : En} {ss ss1 : List Jd.Slot} {x : Expr} {m m' : Mo} (h : JO X e x ss m ss1) (k : ∀ F a o, m.p F a o → m'.p F a o) : JO X e x ss m' ss1 := PE_mono h fun σ H Q ⟨F, I, K⟩ => ⟨F, I, fun a F' H' x1 I1 O => K a F' H' x1 I1 ⟨let ⟨u, h1, h2⟩ := O.u; ⟨u, h1, k _ _ _ h2⟩, O.f, O.h, O.k, O.ne⟩⟩
theorem ok_law_source (T : Tx K mg) (G : H_law_cell P w K mg base) : H_law_source P w K mg base := by
  obtain ⟨fd, D, B⟩ := T.D_law_source
  refine ⟨fd, fn_fresh D sc_law_source (fun _ => rfl) (by decide) ?_, B, T.g_law_source, D.kp⟩
  rintro ⟨ns, k⟩ hk cdv A outer s H E e hr
  dsimp only at hk ⊢
  refine jf_cons (jset 2 (je_callH (i := (ns, k)) G hr (by omega) (ja_cons (jv 0) (ja1 (jv 1))) hk) sc_law_source.nd) (jf_exV 2 fun c _ => ?_)
  refine jf_cons (jset 3 (je_abs (jv 2) T.b_abs) sc_law_source.nd) (jf_cons (ss1 := [.val (mLs ns), .val (mNat k), .val (mInt c), .val mAI, .any]) ?_ (jf_exV 3 fun x _ => ?_))
  · have hA : ∀ {A B : List Stmt}, True := trivial
    by_cases z : (c.natAbs : Int) / 2 ^ (36000 : Int).toNat = 0
    · refine js_if (jt_ne (je_shr (jv 3) je_int (by decide)) je_int) (fun q => ?_) fun _ => ?_
      · rw [decide_eq_true z] at q; cases q
      · exact js_sub1 3 js_nil (.V mAI_in)
    · refine js_if (jt_ne (je_shr (jv 3) je_int (by decide)) je_int) (fun _ => ?_) fun q => ?_
      · exact js_one (jset 3 (je_weak (je_mod (je_intI (jv 3) T.b_int) (je_pow je_int je_int ⟨by decide, by decide, by decide⟩) (by decide)) mAI_in) sc_law_source.nd)
      · rw [decide_eq_false z] at q; cases q
  · exact jf_cons (jset 4 (je_mod (je_intI (je_add (je_add (je_add (je_mul (je_mod (je_intI (jv 3) T.b_int) je_int (by decide)) je_int (.inr (by decide))) (je_mul je_int (jv 1) (.inl (by decide)))) je_int) (je_intB (je_ltI (jv 2) je_int) T.b_int)) T.b_int) je_int (by decide)) sc_law_source.nd)
      (jf_ifr (jt_ge (jv 3) (je_pow je_int je_int ⟨by decide, by decide, by decide⟩)) (fun _ => jf_ret (jo_weak (jo_lst (ja_cons (jv 3) (ja_cons (jv 4) (ja1 je_int))) (Nat.le_of_ble_eq_true rfl)) oSrc_in)) (fun _ => jf_ret (jo_weak (jo_lst (ja_cons je_int (ja_cons (jv 4) (ja1 je_int))) (Nat.le_of_ble_eq_true rfl)) oSrc_in)))
/-! ### what the law draws -/
def askL : List Str := ["ab", "ab", "bf", "acd", "ah", "a", "ab", "ce"]
def mAsk : Mp := mE (fun z : Str => z ∈ askL) mStr
abbrev H_law_asks (P : Program) (w : World) (K : PySem.W.Frag) (mg : Str → Option Value) (base : Heap) : Prop := Has P w K mg base 2 "_law_asks" ["_law_source_here"] (Jd.spB (fun _ : Unit => True) (fun _ => oSrc) (fun _ => oSrc) (fun _ => []) fun _ => mAsk)
theorem ok_law_asks (T : Tx K mg) (G : H_law_draw P w K mg base) : H_law_asks P w K mg base := by
  obtain ⟨fd, D, B⟩ := T.D_law_asks
  refine ⟨fd, fn_bor D sc_law_asks (fun _ => rfl) (by decide) ?_, B, T.g_law_asks, D.kp⟩
  rintro _ _ cdv A outer s H E e ad hr
  exact ⟨_, _, js_one (js_ret (je_weak (je_ixR (k := 8) (jp_of (je_fz (jo_lst (ja_cons je_str (ja_cons je_str (ja_cons je_str (ja_cons je_str (ja_cons je_str (ja_cons je_str (ja_cons je_str (ja1 je_str)))))))) (Nat.le_of_ble_eq_true rfl)))) (je_callSB (i := 8) 0 G hr (by omega) (ja1 je_int) ⟨by decide, by decide⟩) (by decide))
    fun H v ⟨j, hj, h⟩ => by
      match j, hj, h with
      | 0, _, h => exact ⟨_, by decide, h⟩
      | 1, _, h => exact ⟨_, by decide, h⟩
      | 2, _, h => exact ⟨_, by decide, h⟩
      | 3, _, h => exact ⟨_, by decide, h⟩
      | 4, _, h => exact ⟨_, by decide, h⟩
      | 5, _, h => exact ⟨_, by decide, h⟩
      | 6, _, h => exact ⟨_, by decide, h⟩
      | 7, _, h => exact ⟨_, by decide, h⟩)), .rt, rfl⟩
def mNsE (n : Nat) : Mp := mE (fun ns : List Int => ns.length = n) mLs
def mTbE (n : Nat) : Mp := mE (fun tb : List (List Int) => tb.length = n ∧ ∀ r ∈ tb, r.length = n) mLt
theorem mLs_E {N : Nat} : ∀ H v, (mL ((List.range N).map fun _ => mAI)).p H v → (mNsE N).p H v := fun H v h => by
  obtain ⟨xs, ⟨h1, _⟩, h2⟩ := mL_E (p := fun _ : Int => True) (f := mInt) H v h
  exact ⟨xs, h1, h2⟩
theorem mLs_R {N : Nat} {k : Int} : ∀ H v, (mL ((List.range N).map fun _ => mRng k)).p H v → (mNsE N).p H v := fun H v h => by
  obtain ⟨xs, ⟨h1, _⟩, h2⟩ := mL_E (p := fun i : Int => 0 ≤ i ∧ i < k) (f := mInt) H v h
  exact ⟨xs, h1, h2⟩
theorem mLt_E {N : Nat} : ∀ H v, (mL ((List.range N).map fun _ => mNsE N)).p H v → (mTbE N).p H v := fun H v h => by
  obtain ⟨xs, ⟨h1, h3⟩, h2⟩ := mL_E (p := fun ns : List Int => ns.length = N) (f := mLs) H v h
  exact ⟨xs, ⟨h1, h3⟩, h2⟩
abbrev H_law_prices (P : Program) (w : World) (K : PySem.W.Frag) (mg : Str → Option Value) (base : Heap) : Prop := Has P w K mg base 2 "_law_prices" ["_law_source_here", "_law_many", "_law_most"] (Jd.spB (fun p : Nat × Int => p.1 ≤ 1000 ∧ 0 ≤ p.2 ∧ p.2 < 1000) (fun _ => oSrc) (fun _ => oSrc) (fun p => [mNat p.1, mInt p.2]) fun p => mNsE p.1)
theorem ok_law_prices (T : Tx K mg) (G : H_law_draw P w K mg base) : H_law_prices P w K mg base := by
  obtain ⟨fd, D, B⟩ := T.D_law_prices
  refine ⟨fd, fn_bor D sc_law_prices (fun _ => rfl) (by decide) ?_, B, T.g_law_prices, D.kp⟩
  rintro ⟨n, k⟩ ⟨h1, h2, h3⟩ cdv A outer s H E e ad hr
  dsimp only at h1 h2 h3 ⊢
  exact ⟨_, _, js_one (js_ret (je_weak (je_fz (jo_lc1 (jx := 3) (fun _ => mRng (k + 1)) (ji_range1 (jv 1) (by omega) (by omega) T.b_range) softA (fun i hi kk s H C cl fp => je_callSB (i := k + 1) 0 G hr (by omega) (ja1 (je_add (jv 2) je_int)) ⟨by omega, by omega⟩) (by omega) sc_law_prices.nd)) (by rw [Int.toNat_natCast]; exact mLs_R))), .of (by rfl), rfl⟩
abbrev H_law_any_table (P : Program) (w : World) (K : PySem.W.Frag) (mg : Str → Option Value) (base : Heap) : Prop := Has P w K mg base 3 "_law_any_table" ["_law_source_here", "_law_many", "_law_most"] (Jd.spB (fun p : Nat × Int => p.1 ≤ 1000 ∧ 0 ≤ p.2 ∧ p.2 < 1000) (fun _ => oSrc) (fun _ => oSrc) (fun p => [mNat p.1, mInt p.2]) fun p => mTbE p.1)
theorem ok_law_any_table (T : Tx K mg) (G : H_law_prices P w K mg base) : H_law_any_table P w K mg base := by
  obtain ⟨fd, D, B⟩ := T.D_law_any_table
  refine ⟨fd, fn_bor D sc_law_any_table (fun _ => rfl) (by decide) ?_, B, T.g_law_any_table, D.kp⟩
  rintro ⟨n, k⟩ ⟨h1, h2, h3⟩ cdv A outer s H E e ad hr
  dsimp only at h1 h2 h3 ⊢
  exact ⟨_, _, js_one (js_ret (je_weak (je_fz (jo_lc1 (jx := 3) (fun _ => mNsE n) (ji_range1 (jv 1) (by omega) (by omega) T.b_range) softA (fun i hi kk s H C cl fp => je_callSB (i := (n, k)) 0 G hr (by omega) (ja_cons (jv 1) (ja1 (jv 2))) ⟨h1, h2, h3⟩) (by omega) sc_law_any_table.nd)) (by rw [Int.toNat_natCast]; exact mLt_E))), .of (by rfl), rfl⟩
abbrev H_law_change (P : Program) (w : World) (K : PySem.W.Frag) (mg : Str → Option Value) (base : Heap) : Prop := Has P w K mg base 2 "_law_change" ["_law_source_here", "_law_s", "_law_t", "_law_most"] (Jd.spB (fun p : Int × Int × Int => 0 < p.2.2 ∧ p.2.2 < 1000) (fun _ => oSrc) (fun _ => oSrc) (fun p => [mInt p.1, mInt p.2.1, mInt p.2.2]) fun p => mAI)
theorem ok_law_change (T : Tx K mg) (G : H_law_draw P w K mg base) : H_law_change P w K mg base := by
  obtain ⟨fd, D, B⟩ := T.D_law_change
  refine ⟨fd, fn_bor D sc_law_change (fun _ => rfl) (by decide) ?_, B, T.g_law_change, D.kp⟩
  rintro ⟨s1, t, k⟩ ⟨h1, h2⟩ cdv A outer s H E e ad hr
  dsimp only at h1 h2 ⊢
  by_cases z : s1 = t
  · exact ⟨_, _, js_rt (js_if (jt_eq (jv 1) (jv 2)) (fun _ => js_one (js_ret (je_weak je_int mAI_in))) fun q => absurd z (of_decide_eq_false q)), .of (by rfl), rfl⟩
  · exact ⟨_, _, js_cons (js_if (jt_eq (jv 1) (jv 2)) (fun q => absurd (of_decide_eq_true q) z) fun _ => js_nil) (js_one (js_ret (je_addU (je_weak je_int mAI_in) (je_weak (je_callSB (i := k) 0 G hr (by omega) (ja1 (jv 3)) ⟨by omega, by omega⟩) mAI_rng)))), .of (by rfl), rfl⟩
abbrev H_law_changes (P : Program) (w : World) (K : PySem.W.Frag) (mg : Str → Option Value) (base : Heap) : Prop := Has P w K mg base 3 "_law_changes" ["_law_source_here", "_law_many", "_law_most"] (Jd.spB (fun p : Nat × Int => p.1 ≤ 1000 ∧ 0 < p.2 ∧ p.2 < 1000) (fun _ => oSrc) (fun _ => oSrc) (fun p => [mNat p.1, mInt p.2]) fun p => mTbE p.1)
theorem ok_law_changes (T : Tx K mg) (G : H_law_change P w K mg base) : H_law_changes P w K mg base := by
  obtain ⟨fd, D, B⟩ := T.D_law_changes
  refine ⟨fd, fn_bor D sc_law_changes (fun _ => rfl) (by decide) ?_, B, T.g_law_changes, D.kp⟩
  rintro ⟨n, k⟩ ⟨h1, h2, h3⟩ cdv A outer s H E e ad hr
  dsimp only at h1 h2 h3 ⊢
  refine ⟨_, _, js_cons (jsetO 3 (jo_lst ja_nil (Nat.zero_le _)) sc_law_changes.nd)
    (js_cons (js_forN (fun i => [.bor ad oSrc, .val (mNat n), .val (mInt k), .own (oL ((List.range i).map fun _ => mNsE n)), .any, .any]) (ji_range1 (jv 1) (by omega) (by omega) T.b_range) (by repeat (first | exact Le.nil | refine Le.same ?_ | refine Le.drop ?_)) (fun i hi => ⟨_, _, jgn 4 sc_law_changes.nd,
      js_one (js_app 3 (m := mNsE n) (je_weak (je_fz (jo_lc1 (jx := 5) (fun _ => mAI) (ji_range1 (jv 1) (by omega) (by omega) T.b_range) softA (fun j hj kk s H C cl fp => je_callSB (i := ((i : Int), (j : Int), k)) 0 G hr (by omega) (ja_cons (jv 4) (ja_cons (jv 5) (ja1 (jv 2)))) ⟨h2, h3⟩) (by omega) sc_law_changes.nd)) (by rw [Int.toNat_natCast]; exact mLs_E)) (hl := by simp; omega)), ?_⟩) PassesOwn.never)
    (js_one (js_ret (je_weak (jfz 3) (by rw [Int.toNat_natCast]; exact mLt_E))))), .of (by rfl), rfl⟩
  rw [range_map_succ]
  exact (by repeat (first | exact Le.nil | refine Le.same ?_ | refine Le.drop ?_))
abbrev H_law_served (P : Program) (w : World) (K : PySem.W.Frag) (mg : Str → Option Value) (base : Heap) : Prop := Has P w K mg base 1 "_law_served" ["_law_changes_here", "_law_serves"] (spP (fun p : List (List Int) × List Int × Nat => p.2.2 ≤ 1000 ∧ p.2.1.length = p.2.2 ∧ p.1.length = p.2.2 ∧ ∀ r ∈ p.1, r.length = p.2.2) (fun p => [mLt p.1, mLs p.2.1]) fun p => mTbE p.2.2)
theorem ok_law_served (T : Tx K mg) : H_law_served P w K mg base := by
  obtain ⟨fd, D, B⟩ := T.D_law_served
  refine ⟨fd, fn_pure D sc_law_served (fun _ => rfl) (by decide) ?_, B, T.g_law_served, D.kp⟩
  rintro ⟨tb, ns, n⟩ ⟨h0, h1, h2, h3⟩ cdv A outer s H E e hr
  dsimp only at h0 h1 h2 h3 ⊢
  refine ⟨_, _, js_one (js_ret (je_weak (je_fz (jo_lc1 (jx := 2) (fun _ => mNsE n) (ji_map (f := mLs) (xs := tb) [] (.inl rfl) (jv 0) (g := fun i => mLs (tb.getD i [])) (fun _ _ => rfl)) softA (fun i hi kk s H C cl fp =>
      je_weak (je_fz (jo_lc2 3 4 (u := fun j => mInt ((tb.getD i []).getD j 0)) (v := fun j => mInt (ns.getD j 0)) (fun _ => mAI) (ji_congr (N' := n) (ys' := fun j => mT [mInt ((tb.getD i []).getD j 0), mInt (ns.getD j 0)]) (pi_zip2J (rJ_list (jv 2)) (rJ_list (jv 1)) T.b_zip) ?_ ?_) softA softA (fun j hj kk s H C cl fp => je_weak (je_add (jv 3) (jv 4)) mAI_in) (by omega) sc_law_served.nd)) mLs_E) (by omega) sc_law_served.nd)) (by rw [h2]; exact mLt_E))), .of (by rfl)⟩
  · intro j hj
    have hr := h3 _ (getD_mem (d := []) hi)
    rw [List.length_map, List.length_map] at hj
    rw [getD_map (d := 0) (by omega), getD_map (d := 0) (by omega)]
  · have hr := h3 _ (getD_mem (d := []) hi)
    rw [List.length_map, List.length_map]
    omega
end Afw

/-! text D20 -/
set_option Elab.async false
set_option linter.all false
set_option maxRecDepth 100000
set_option maxHeartbeats 4000000
namespace Jd
open PySem L2 PySem.Spec PyProof.Rows
/-- the name may be a cell (a block within the block uses it) -/
theorem jo_lc1c {X : Cx} {e : En} {ss ss1 : List Slot} {it elt : Expr} {pos p : Pos} {nm : Str} {N jx : Nat} {ys : Nat → Mp} {scope : Scope} (outs : Nat → Mp) (hi : JI X e (.Name nm p) it ss N ys ss1) (soft : ∀ s, ss1[jx]? = some s → s = .any ∨ ∃ m, s = .val m)
    (he : ∀ i, i < N → ∀ (k : Addr → Option HO) (s : Shared) (H : Hp) (C : Addr) (cl : List (Str × Addr)) (fp : List Addr), JE (X.blk s H scope (compEnvC scope cl C X.env) fp) (e.kp k) elt (ss1.set jx (.val (ys i))) (outs i) (ss1.set jx (.val (ys i))))
    (hN : N ≤ 100000) (hNd : X.N.Nodup) (ok : BlkOk X.N X.env.scope scope [(nm, jx)] := by exact blkOk_by (by kernel_rfl)) (hNj : X.N[jx]? = some nm := by rfl) (hx : ∀ cl C, (compEnvC scope cl C X.env).scope.names.lookup nm = some .cell := by exact fun _ _ => rfl) (hf : ∀ (s : Shared) (H : Hp) (C : Addr) (cl : List (Str × Addr)) (fp : List Addr), (X.blk s H scope (compEnvC scope cl C X.env) fp).fn nm = true ∨ (X.blk s H scope (compEnvC scope cl C X.env) fp).env.scope.names.lookup nm = some .local := by exact fun _ _ _ _ _ => Or.inl rfl) (hc : X.calm = true := by rfl) (hs : ∀ x, foldedSetIterable it X.env x = pure x := by intro _; rfl) :
    JO X e (.ListComp elt [⟨.Name nm p, it, [], 0⟩] scope pos) ss (oL ((List.range N).map outs)) ss1 :=
  jo_lcP (own := [(nm, jx)]) (B := fun i => ss1.set jx (.val (ys i))) outs hi (fun k hk s h => by
      obtain rfl : k = jx := List.mem_singleton.mp hk
      exact soft s h) (fun _ _ _ _ _ => pg_name hNd hNj (.inr (hx _ _)) (hf _ _ _ _ _)) (fun i _ => by
      have := gok_name (m := ys i) (ss := ss1.set jx .any) (j := jx) (vs := [jx]) List.mem_cons_self
      rw [List.set_set] at this
      exact this) he (fun i _ => by
      show (ss1.set jx (.val (ys i))).set jx .any = ss1.set jx .any
      rw [List.set_set]) hN hNd ok hc hs
theorem js_fzS {X : Cx} {e : En} {ss ss1 : List Slot} {body : List Stmt} {ms : List Mp} (k : Nat) (h : JSs X e body ss (.nx ss1)) (hk : ss1[k]? = some (.own (oL ms)) := by rfl) : JSs X e body ss (.nx (ss1.set k (.val (mL ms)))) :=
  PSs_mono h fun D σ H ⟨F, I, K⟩ => ⟨F, I, fun σ' F' H' x1 I1 => by
    obtain ⟨a, F2, _, x2, I2, _⟩ := I1.freeze hk oL_mL
    exact K σ' F2 H' (x1.trans x2) I2⟩
end Jd
namespace Afw
open PySem L2 PySem.Spec PyProof.Rows Jd
variable {P : Program} {w : World} {K : PySem.W.Frag} {mg : Str → Option Value} {base : Heap}
abbrev mWorld (d : StD) : Mp := mL [mStr d.asks, mLs d.begins, mLc d.costs, mLs d.ends]
def mWldE (z : Str) : Mp := mE (fun d : StD => StOk d ∧ d.asks = z) mWorld
theorem allP4 {H : Hp} {a b c d : Mp} : ∀ {vs : List V}, allP H [a, b, c, d] vs → ∃ v1 v2 v3 v4, vs = [v1, v2, v3, v4] ∧ a.p H v1 ∧ b.p H v2 ∧ c.p H v3 ∧ d.p H v4
  | [v1, v2, v3, v4], h => ⟨v1, v2, v3, v4, rfl, h.1, h.2.1, h.2.2.1, h.2.2.2.1⟩
  | [], h => h.elim
  | [_], h => h.2.elim
  | [_, _], h => h.2.2.elim
  | [_, _, _], h => h.2.2.2.elim
  | _ :: _ :: _ :: _ :: _ :: _, h => h.2.2.2.2.elim
theorem mNsE_out {n : Nat} {H : Hp} {v : V} (h : (mNsE n).p H v) : ∃ ns : List Int, ns.length = n ∧ (mLs ns).p H v := h
theorem world_in {z : Str} {n : Nat} (hz : askOk z = true) (h1 : 1 ≤ n) (h2 : n ≤ 1000) : ∀ H v, (mL [mStr z, mNsE n, mL ((List.range z.length).map fun _ => mTbE n), mNsE n]).p H v → (mWldE z).p H v := by
  intro H v h
  obtain ⟨a, vs, e1, e2, e3⟩ := h
  obtain ⟨v1, v2, v3, v4, rfl, q1, q2, q3, q4⟩ := allP4 e3
  obtain ⟨bs, b1, b2⟩ := mNsE_out q2
  obtain ⟨es, c1, c2⟩ := mNsE_out q4
  obtain ⟨cs, ⟨d1, d2⟩, d3⟩ := mL_E (p := fun tb : List (List Int) => tb.length = n ∧ ∀ r ∈ tb, r.length = n) (f := mLt) H v3 q3
  refine ⟨⟨z, bs, cs, es⟩, ⟨⟨hz, ?_, ?_, fun t ht => ?_, ?_⟩, rfl⟩, ?_⟩
  · show 1 ≤ bs.length ∧ bs.length ≤ 1000
    rw [b1]
    exact ⟨h1, h2⟩
  · show (cs.length : Int) = z.length
    rw [d1]
  · show t.length = bs.length ∧ ∀ r ∈ t, r.length = bs.length
    rw [b1]
    exact d2 t ht
  · show es.length = bs.length
    rw [b1, c1]
  · exact ⟨a, [v1, v2, v3, v4], e1, e2, q1, b2, d3, c2, trivial⟩
theorem ns0_in {n : Nat} : ∀ H v, (mL (List.replicate ((n : Int)).toNat (mInt 0))).p H v → (mNsE n).p H v := fun H v h => ⟨List.replicate n 0, List.length_replicate, by
  show (mL (List.map mInt (List.replicate n 0))).p H v
  rw [List.map_replicate]
  exact h⟩
theorem allP_unset {H : Hp} {m : Mp} : ∀ (ms : List Mp) (k : Nat) (vs : List V), allP H (ms.set k m) vs → (∀ m', ms[k]? = some m' → ∀ v, m.p H v → m'.p H v) → allP H ms vs
  | [], _, _, h, _ => h
  | m0 :: ms, 0, v :: vs, h, g => ⟨g m0 rfl v h.1, h.2⟩
  | m0 :: ms, k + 1, v :: vs, h, g => ⟨h.1, allP_unset ms k vs h.2 fun m' e => g m' e⟩
  | _ :: _, 0, [], h, _ => h.elim
  | _ :: _, _ + 1, [], h, _ => h.elim
theorem aiSet {H : Hp} {n k : Nat} {m' : Mp} {v : V} (hm : (List.replicate n mAI)[k]? = some m') (hv : (mInt 0).p H v) : m'.p H v := by
  rw [List.getElem?_replicate] at hm
  split at hm
  · have hm : mAI = m' := Option.some.inj hm
    rw [← hm]
    exact mAI_in H v hv
  · cases hm
theorem nsSet_in {n k : Nat} : ∀ H v, (mL (((List.range n).map fun _ => mAI).set k (mInt 0))).p H v → (mNsE n).p H v := by
  intro H v h
  obtain ⟨a, vs, e1, e2, e3⟩ := h
  apply mLs_E (N := n) H v
  rw [rng_rep] at e3 ⊢
  refine ⟨a, vs, e1, e2, ?_⟩
  exact allP_unset _ k vs e3 fun m' hm v hv => aiSet hm hv
abbrev lwP (ad : Addr) (n : Nat) (z : Str) (k : Int) (mn : Int) (i : Nat) : List Jd.Slot := [.bor ad oSrc, .val (mNat n), .val (mStr z), .val (mInt k), .val (mInt mn), .val (mNsE n), .val (mNsE n), .val (mTbE n), .own (oL ((List.range i).map fun _ => mTbE n)), .any, .any, .any]
abbrev H_law_world (P : Program) (w : World) (K : PySem.W.Frag) (mg : Str → Option Value) (base : Heap) : Prop := Has P w K mg base 4 "_law_world" ["_law_source_here", "_law_many", "_law_asks_here", "_law_most"] (Jd.spB (fun p : Nat × Str × Int => 1 ≤ p.1 ∧ p.1 ≤ 1000 ∧ askOk p.2.1 = true ∧ 0 < p.2.2 ∧ p.2.2 < 1000) (fun _ => oSrc) (fun _ => oSrc) (fun p => [mNat p.1, mStr p.2.1, mInt p.2.2]) fun p => mWldE p.2.1)
theorem ok_law_world (T : Tx K mg) (G1 : H_law_draw P w K mg base) (G2 : H_law_prices P w K mg base) (G3 : H_law_changes P w K mg base) (G4 : H_law_any_table P w K mg base) (G5 : H_law_served P w K mg base) : H_law_world P w K mg base := by
  obtain ⟨fd, D, B⟩ := T.D_law_world
  refine ⟨fd, fn_bor D sc_law_world (fun _ => rfl) (by decide) ?_, B, T.g_law_world, D.kp⟩
  rintro ⟨n, z, k⟩ ⟨h1, h2, hz, h3, h4⟩ cdv A outer s H E e ad hr
  dsimp only at h1 h2 hz h3 h4 ⊢
  have hs := askOk_size hz
  refine ⟨.rt (mWldE z) [.bor ad oSrc, .any, .any, .any, .any, .any, .any, .any, .any, .any, .any, .any], [.bor ad oSrc, .any, .any, .any, .any, .any, .any, .any, .any, .any, .any, .any], js_cons (jset 4 (je_callSB (i := 7) 0 G1 hr (by omega) (ja1 je_int) ⟨by decide, by decide⟩) sc_law_world.nd) (js_exV 4 fun mn _ => ?_), .rt, rfl⟩
  refine js_cons (jset 5 (je_callSB (i := (n, k)) 0 G2 hr (by omega) (ja_cons (jv 1) (ja1 (jv 3))) ⟨h2, by show 0 ≤ k; omega, h4⟩) sc_law_world.nd)
    (js_cons (jset 6 (je_callSB (i := (n, k)) 0 G2 hr (by omega) (ja_cons (jv 1) (ja1 (jv 3))) ⟨h2, by show 0 ≤ k; omega, h4⟩) sc_law_world.nd)
    (js_cons (js_ifU (r := .nx [.bor ad oSrc, .val (mNat n), .val (mStr z), .val (mInt k), .val (mInt mn), .val (mNsE n), .val (mNsE n), .any, .any, .any, .any, .any]) (jtu_eq (je_weak (je_callSB (i := 2) 0 G1 hr (by omega) (ja1 je_int) ⟨by decide, by decide⟩) mAI_rng) je_int)
      (js_one (jset 6 (je_weak (je_fz (jo_rep (je_fzl (jo_lst (ja1 je_int) (Nat.le_of_ble_eq_true rfl))) (jv 1) (by omega) (by omega))) ns0_in) sc_law_world.nd)) js_nil)
    (js_cons (jset 7 (je_callSB (i := (n, k)) 0 G3 hr (by omega) (ja_cons (jv 1) (ja1 (jv 3))) ⟨h2, h3, h4⟩) sc_law_world.nd)
    (js_cons (jsetO 8 (jo_lst ja_nil (Nat.zero_le _)) sc_law_world.nd)
    (js_cons (js_forN (fun i => lwP ad n z k mn i) (ji_range1 (je_lenS (jv 2) (by omega) T.b_len) (by omega) (by omega) T.b_range) (by repeat (first | exact Le.nil | refine Le.same ?_ | refine Le.drop ?_)) (fun i hi => ⟨_, lwP ad n z k mn (i + 1), jgn 9 sc_law_world.nd, ?_, Le.rfl⟩) PassesOwn.never)
    (js_weakR (js_one (js_ret (je_weak (je_fz (jo_lst (ja_cons (jv 2) (ja_cons (jv 5) (ja_cons (jfz 8) (ja1 (jv 6))))) (Nat.le_of_ble_eq_true rfl))) (by rw [Int.toNat_natCast]; exact world_in hz h1 h2)))) (by repeat (first | exact Le.nil | refine Le.same ?_ | refine Le.drop ?_))))))))
  show JSs _ _ _ _ (.nx [_, _, _, _, _, _, _, _, .own (oL ((List.range (i + 1)).map fun _ => mTbE n)), _, _, _])
  rw [range_map_succ]
  have i4 : i < 4 := by omega
  by_cases q : mn = 0
  · exact js_weak (js_one (js_if (jt_eq (jv 4) je_int) (fun _ => js_one (js_app 8 (je_callSB (i := (n, k)) 0 G4 hr (by omega) (ja_cons (jv 1) (ja1 (jv 3))) ⟨h2, by show 0 ≤ k; omega, h4⟩) (hl := by simp; omega))) fun y => absurd q (of_decide_eq_false y))) (by repeat (first | exact Le.nil | refine Le.same ?_ | refine Le.drop ?_))
  · refine js_weak (js_one (js_if (r := .nx [.bor ad oSrc, .val (mNat n), .val (mStr z), .val (mInt k), .val (mInt mn), .val (mNsE n), .val (mNsE n), .val (mTbE n), .own (oL (((List.range i).map fun _ => mTbE n) ++ [mTbE n])), .any, .any, .any]) (jt_eq (jv 4) je_int) (fun y => absurd (of_decide_eq_true y) q) fun _ => js_cons (jset 10 (je_callSB (i := (n, k)) 0 G2 hr (by omega) (ja_cons (jv 1) (ja1 (jv 3))) ⟨h2, by show 0 ≤ k; omega, h4⟩) sc_law_world.nd)
      (js_cons (js_if (r := .nx [.bor ad oSrc, .val (mNat n), .val (mStr z), .val (mInt k), .val (mInt mn), .val (mNsE n), .val (mNsE n), .val (mTbE n), .own (oL ((List.range i).map fun _ => mTbE n)), .any, .val (mNsE n), .any]) (jt_gt (jv 4) je_int) (fun _ => ?_) fun _ => js_weak js_nil (by repeat (first | exact Le.nil | refine Le.same ?_ | refine Le.drop ?_))) ?_))) (by repeat (first | exact Le.nil | refine Le.same ?_ | refine Le.drop ?_))
    · exact js_exV (p := fun ns : List Int => ns.length = n) (f := mLs) 10 fun ns hns => js_weak (js_sub1 10 (js_fzS 10 (js_cons (js_setLc1 (i0 := 10) (jx := 11) (fun _ => mAI) (ji_map (f := mInt) (xs := ns) 0 (.inl rfl) (jv 10) (g := fun j => mInt (ns.getD j 0)) (fun _ _ => rfl)) softA (fun j hj kk s H C cl fp => je_weak (je_max2 (jv 11) je_int T.b_max) mAI_in) (by omega) sc_law_world.nd)
        (js_one (jsetI 10 (i % n) je_int (je_mod (je_intI (jv 9) T.b_int) (jv 1) (by omega)) (by rw [Int.natCast_emod]) (hl := by simp; rw [hns]; exact Nat.mod_lt _ (by omega)))))) (.V (m := mL (((List.range ns.length).map fun _ => mAI).set (i % n) (mInt 0))) (m' := mNsE n) (by rw [hns]; exact nsSet_in))) (by repeat (first | exact Le.nil | refine Le.same ?_ | refine Le.drop ?_))
    · exact js_exV (p := fun tb : List (List Int) => tb.length = n ∧ ∀ r ∈ tb, r.length = n) (f := mLt) 7 fun tb htb => js_exV (p := fun ns : List Int => ns.length = n) (f := mLs) 10 fun ns hns => js_weak (js_sub1 7 (js_one (js_app 8 (m := mTbE n) (je_callH (i := (tb, ns, n)) G5 hr (by omega) (ja_cons (jv 7) (ja1 (jv 10))) ⟨h2, hns, htb.1, htb.2⟩) (hl := by simp; omega))) (.V (m := mLt tb) (m' := mTbE n) (mE_in (p := fun tb : List (List Int) => tb.length = n ∧ ∀ r ∈ tb, r.length = n) (f := mLt) htb))) (by repeat (first | exact Le.nil | refine Le.same ?_ | refine Le.drop ?_))
abbrev H_law_lists (P : Program) (w : World) (K : PySem.W.Frag) (mg : Str → Option Value) (base : Heap) : Prop := Has P w K mg base 1 "_law_lists" ["_law_world_here"] (spP (fun d : StD => StOk d) (fun d => [mL [mStr d.asks, mNs d.begins, mTc d.costs, mNs d.ends]]) fun d => mWorld d)
theorem ok_law_lists (T : Tx K mg) : H_law_lists P w K mg base := by
  obtain ⟨fd, D, B⟩ := T.D_law_lists
  refine ⟨fd, fn_pure D sc_law_lists (fun _ => rfl) (by decide) ?_, B, T.g_law_lists, D.kp⟩
  rintro ⟨asks, bs, cs, es⟩ h cdv A outer s H E e hr
  have hk := h.k
  have hc := h.c
  have hn := h.n
  have hs := askOk_size h.a
  dsimp only at hk hc hn hs ⊢
  refine ⟨_, _, js_cons (js_setLc1 (i0 := 1) (jx := 2) (fun i => mLt (cs.getD i [])) (ji_map (f := mTb) (xs := cs) [] (.inr rfl) (je_ix (jpv 0) (i := 2) (m := mTc cs) je_int rfl) (g := fun i => mTb (cs.getD i [])) (fun _ _ => rfl)) softA
      (fun i hi kk s H C cl fp => je_of (je_fz (jo_lc1 (jx := 3) (fun j => mLs ((cs.getD i []).getD j [])) (ji_map (f := mNs) (xs := cs.getD i []) [] (.inr rfl) (jv 2) (g := fun j => mNs ((cs.getD i []).getD j [])) (fun _ _ => rfl)) softA
        (fun j hj kk s H C cl fp => je_fz (jo_listOfT (jv 3) T.b_list)) (by have := (hc _ (getD_mem (d := []) hi)).1; omega) sc_law_lists.nd)) (by rw [range_getD_map (xs := cs.getD i []) (d := []) mLs])) (by omega) sc_law_lists.nd)
    (js_one (js_ret (je_fz (jo_lst (ja_cons (je_ix (jpv 0) (i := 0) (m := mStr asks) je_int rfl) (ja_cons (je_fz (jo_listOfT (je_ix (jpv 0) (i := 1) (m := mNs bs) je_int rfl) T.b_list)) (ja_cons (jfz 1) (ja1 (je_fz (jo_listOfT (je_ix (jpv 0) (i := 3) (m := mNs es) je_int rfl) T.b_list)))))) (Nat.le_of_ble_eq_true rfl))))), .of ?_⟩
  rw [range_getD_map (xs := cs) (d := []) mLt]
abbrev H_law_led (P : Program) (w : World) (K : PySem.W.Frag) (mg : Str → Option Value) (base : Heap) : Prop := Has P w K mg base 1 "_law_led" ["_law_line", "_law_table"] (spP (fun p : List Int × List (List Int) => Sq p.1 p.2) (fun p => [mNs p.1, mLt p.2]) fun p => mLs (ledM p.1 p.2))
theorem ok_law_led (T : Tx K mg) : H_law_led P w K mg base := by
  obtain ⟨fd, D, B⟩ := T.D_law_led
  refine ⟨fd, fn_pure D sc_law_led (fun _ => rfl) (by decide) ?_, B, T.g_law_led, D.kp⟩
  rintro ⟨ws, tb⟩ h cdv A outer s H E e hr
  change Sq ws tb at h
  have hn := h.n
  have hl := h.l
  have hrow : ∀ {s : Nat}, s < ws.length → (tb.getD s []).length = ws.length := fun {s} hs => h.r _ (getD_mem (by omega))
  dsimp only
  refine ⟨_, _, js_cons (jset 2 (m := mNat ws.length) (je_of (je_lenT (jv 0) T.b_len) (by rw [List.length_map])) sc_law_led.nd)
    (js_one (js_ret (je_fz (jo_lc1c (jx := 3) (fun t => mInt (ledAt ws tb ws.length t)) (ji_range1 (jv 2) (by omega) (by omega) T.b_range) softA (fun t ht kk s H C cl fp =>
      je_of (je_min (ns := (List.range ws.length).map fun s => ws.getD s 0 + (tb.getD s []).getD t 0) (jp_of (je_of (je_fz (jo_lc1 (jx := 4) (fun s => mInt (ws.getD s 0 + (tb.getD s []).getD t 0)) (ji_range1 (jv 2) (by omega) (by omega) T.b_range) softA (fun s hs kk s H C cl fp => je_of (je_add (je_ixNs _ (jv 0) (jv 4) rfl (by omega)) (je_ixLF (f := mInt) (xs := tb.getD _ []) 0 t (jp_of (je_ixLF (f := mLs) (xs := tb) [] _ (jpv 1) (jv 4) rfl (by omega))) (jv 3) rfl (by rw [hrow (by omega)]; omega))) rfl) (by omega) sc_law_led.nd)) ?_)) ?_ T.b_min) rfl) (by omega) sc_law_led.nd)))), .of ?_⟩
  · rw [Int.toNat_natCast, List.map_map]
    rfl
  · intro q
    rw [List.map_eq_nil_iff, List.range_eq_nil] at q
    omega
  · rw [Int.toNat_natCast]
    unfold ledM
    show _ = mL (List.map mInt (List.map _ _))
    rw [List.map_map]
    rfl
abbrev H_law_low (P : Program) (w : World) (K : PySem.W.Frag) (mg : Str → Option Value) (base : Heap) : Prop := Has P w K mg base 1 "_law_low" ["_law_line"] (spP (fun ns : List Int => ns ≠ [] ∧ ns.length ≤ 1000) (fun ns => [mLs ns]) fun ns => mNs (lowM ns))
theorem ok_law_low (T : Tx K mg) : H_law_low P w K mg base := by
  obtain ⟨fd, D, B⟩ := T.D_law_low
  refine ⟨fd, fn_pure D sc_law_low (fun _ => rfl) (by decide) ?_, B, T.g_law_low, D.kp⟩
  rintro ns ⟨hne, hl⟩ cdv A outer s H E e hr
  refine ⟨_, _, js_cons (jset 1 (je_min (jpv 0) hne T.b_min) sc_law_low.nd)
    (js_one (js_ret (je_tupOf (jp_of (je_fz (jo_lc1 (jx := 2) (fun i => mInt (ns.getD i 0 - minL ns)) (ji_map (f := mInt) (xs := ns) 0 (.inl rfl) (jv 0) (g := fun i => mInt (ns.getD i 0)) (fun _ _ => rfl)) softA (fun i hi k s H C cl fp => je_sub (jv 2) (jv 1)) (by omega) sc_law_low.nd))) T.b_tuple))), .of ?_⟩
  rw [range_getD_map (d := 0) (fun x => mInt (x - minL ns))]
  show mT _ = mT (List.map mInt (lowM ns))
  unfold lowM
  rw [List.map_map]
  rfl
end Afw

/-! text D21 -/
set_option Elab.async false
set_option linter.all false
set_option maxRecDepth 100000
set_option maxHeartbeats 4000000
namespace Afw
open PySem L2 PySem.Spec PyProof.Rows Jd
variable {P : Program} {w : World} {K : PySem.W.Frag} {mg : Str → Option Value} {base : Heap}
theorem lotsT_up {d : StD} {lot : List Int} {lots : List (List Int)} : ∀ k, (lotsT d lot lots k).length ≤ lots.length + k
  | 0 => Nat.le_refl _
  | k + 1 => by
    have h1 := lotsT_up (d := d) (lot := lot) (lots := lots) k
    have h2 := putX_le1 (xs := lotsT d lot lots k) (x := lotK d lot k)
    show (putX _ _).length ≤ _
    omega
theorem stB_up {d : StD} (hd : d.asks.length ≤ 4) : ∀ i, (stB d i).1.length ≤ 1 + 4 * i
  | 0 => Nat.le_refl _
  | i + 1 => by
    have h1 := stB_up hd i
    have h2 := lotsT_up (d := d) (lot := (stB d i).1.getD i []) (lots := (stB d i).1) d.asks.length
    show (lotsT d ((stB d i).1.getD i []) (stB d i).1 d.asks.length).length ≤ _
    omega
theorem stB_run {d : StD} : ∀ i, (∀ j, j ≤ i → (stB d j).1.length ≠ j) → i < (stB d i).1.length
  | 0, _ => Nat.lt_succ_self 0
  | i + 1, h => by
    have h1 := stB_run i fun j hj => h j (by omega)
    have h2 := stB_mono (d := d) (i := i) (j := i + 1) (Nat.le_succ i)
    have h3 := h (i + 1) (Nat.le_refl _)
    omega
theorem lotsT_old {d : StD} {lot : List Int} {lots : List (List Int)} {i : Nat} (h : i < lots.length) : ∀ k, (lotsT d lot lots k)[i]? = lots[i]?
  | 0 => rfl
  | k + 1 => by
    show (putX _ _)[i]? = _
    rw [putX_old (Nat.lt_of_lt_of_le h (lotsT_le k)), lotsT_old h k]
abbrev mItL (it : List (Int × Int)) : Mp := mL (it.map mPair)
abbrev mLots (d : StD) (T : Nat) : Mp := mL [mL ((stB d T).1.map mNs), mL (rowsM (stB d T).1.length), mL ((stB d T).2.map mItL)]
abbrev llP (w : World) (d : StD) (mo : Nat) (i : Nat) : List Jd.Slot := [.val (mWorld d), .val (mNat mo), .val (mStr d.asks), .own (oL ((stB d i).1.map mNs)), .own (oL (rowsM (stB d i).1.length)), .own (oN w (kvsN numKey (stB d i).1)), .own (oL ((stB d i).2.map mItL)), .any, .any, .any, .any, .any]
abbrev llQ (w : World) (d : StD) (mo : Nat) (lot : List Int) (lots : List (List Int)) (steps : List (List (Int × Int))) (i k : Nat) : List Jd.Slot :=
  [.val (mWorld d), .val (mNat mo), .val (mStr d.asks), .own (oL ((lotsT d lot lots k).map mNs)), .own (oL (rowsM (lotsT d lot lots k).length)), .own (oN w (kvsN numKey (lotsT d lot lots k))), .own (oL (steps.map mItL)), .val (mNat i), .own (oL (((List.range k).map (itemT d lot lots)).map mPair)), .any, .any, .any]
inductive LotsR (d : StD) (mo : Nat) : Mp → Prop where
  | some {T : Nat} (h : T ≤ mo) (e : (stB d T).1.length = T) (b : ∀ i, i < T → (stB d i).1.length ≠ i) : LotsR d mo (mLots d T)
  | none (h : ∀ i, i ≤ mo → (stB d i).1.length ≠ i) : LotsR d mo mNone
abbrev H_law_lots (P : Program) (w : World) (K : PySem.W.Frag) (mg : Str → Option Value) (base : Heap) : Prop := Has P w K mg base 2 "_law_lots" ["_law_world_here", "_law_most"] (spP (fun p : StD × Nat × Mp => StOk p.1 ∧ p.2.1 ≤ 900 ∧ LotsR p.1 p.2.1 p.2.2) (fun p => [mWorld p.1, mNat p.2.1]) fun p => p.2.2)
theorem ok_law_lots (T : Tx K mg) (G1 : H_law_led P w K mg base) (G2 : H_law_low P w K mg base) : H_law_lots P w K mg base := by
  obtain ⟨fd, D, B⟩ := T.D_law_lots
  refine ⟨fd, fn_pure D sc_law_lots (fun _ => rfl) (by decide) ?_, B, T.g_law_lots, D.kp⟩
  rintro ⟨d, mo, res⟩ ⟨hd, hmo, hR⟩ cdv A outer s H E e hr
  dsimp only at hd hmo hR ⊢
  have hs := askOk_size hd.a
  have hn := hd.n
  have hk := hd.k
  have hup := stB_up (d := d) hs.2
  have hu : (cxOf CX0 P w K mg base N_law_lots "_law_lots" (defScope (top 91)) (He.ga K "_law_lots") cdv A outer s H E).nox.A.units + 9 < cLine := room_u hr
  have turn : ∀ i, i ≤ mo → (∀ j, j ≤ i → (stB d j).1.length ≠ j) → JSs (cxOf CX0 P w K mg base N_law_lots "_law_lots" (defScope (top 91)) (He.ga K "_law_lots") cdv A outer s H E).nox e (forBody ((defBody (top 91)).getD 6 (.Pass ⟨0, 0, 0, 0⟩))) ((llP w d mo i).set 7 (.val (mInt (i : Int)))) (.nx (llP w d mo (i + 1))) := fun i him hne => by
    have hi2 := stB_run i hne
    have hall := stB_all (d := d) i (fun j hj => stB_run j fun q hq => hne q (by omega)) i (Nat.le_refl _)
    have hL := hup i
    refine js_cons (js_if (jt_eq (jv 7) (je_lenL (jpo 3) T.b_len)) (fun y => ?_) fun _ => js_nil)
      (js_cons (jsetO 8 (jo_lst ja_nil (Nat.zero_le _)) sc_law_lots.nd)
      (js_cons (js_forN (fun k => llQ w d mo ((stB d i).1.getD i []) (stB d i).1 (stB d i).2 i k) (ji_range1 (je_lenS (jv 2) (by omega) T.b_len) (by omega) (by omega) T.b_range) (by repeat (first | exact Le.nil | refine Le.same ?_ | refine Le.drop ?_)) (fun k hk' => ?_) PassesOwn.never)
      (js_weak (js_one (js_app 6 (jfz 8) (hl := by rw [List.length_map, stB_steps]; omega))) ?_)))
    · have y := of_decide_eq_true y
      rw [List.length_map] at y
      exact absurd (by omega) (hne i (Nat.le_refl _))
    · rw [Int.toNat_natCast] at hk'
      have lotn : ((stB d i).1.getD i []).length = d.begins.length := hall _ (getD_mem hi2)
      have kc : k < d.costs.length := by omega
      have sq : Sq ((stB d i).1.getD i []) (d.costs.getD k []) := ⟨by rw [lotn]; exact hn, by rw [lotn]; exact (hd.c _ (getD_mem kc)).1, fun r hr => by rw [lotn]; exact (hd.c _ (getD_mem kc)).2 r hr⟩
      have ln : (ledM ((stB d i).1.getD i []) (d.costs.getD k [])).length = d.begins.length := by rw [ledM_len, lotn]
      have hat : (lotsT d ((stB d i).1.getD i []) (stB d i).1 k).getD i [] = (stB d i).1.getD i [] := by
        rw [List.getD_eq_getElem?_getD, lotsT_old hi2, ← List.getD_eq_getElem?_getD]
      have lup := lotsT_up (d := d) (lot := (stB d i).1.getD i []) (lots := (stB d i).1) k
      have lle := lotsT_le (d := d) (lot := (stB d i).1.getD i []) (lots := (stB d i).1) k
      show ∃ B s, JG _ _ _ _ _ _ ∧ JSs _ _ _ _ _ ∧ Le s [_, _, _, .own (oL ((putX (lotsT d ((stB d i).1.getD i []) (stB d i).1 k) (lotK d ((stB d i).1.getD i []) k)).map mNs)), .own (oL (rowsM (putX (lotsT d ((stB d i).1.getD i []) (stB d i).1 k) (lotK d ((stB d i).1.getD i []) k)).length)), .own (oN w (kvsN numKey (putX (lotsT d ((stB d i).1.getD i []) (stB d i).1 k) (lotK d ((stB d i).1.getD i []) k)))), _, _, .own (oL (((List.range (k + 1)).map (itemT d ((stB d i).1.getD i []) (stB d i).1)).map mPair)), _, _, _]
      rw [range_map_succ, List.map_append]
      have eI : mPair (itemT d ((stB d i).1.getD i []) (stB d i).1 k) = mT [mNat (atX (lotsT d ((stB d i).1.getD i []) (stB d i).1 k) (lotK d ((stB d i).1.getD i []) k)), mInt (leastK d ((stB d i).1.getD i []) k)] := rfl
      show ∃ B s, JG _ _ _ _ _ _ ∧ JSs _ _ _ _ _ ∧ Le s [_, _, _, _, _, _, _, _, .own (oL (_ ++ [mPair (itemT d ((stB d i).1.getD i []) (stB d i).1 k)])), _, _, _]
      rw [eI]
      generalize (stB d i).1.getD i [] = lot at *
      generalize hL : lotsT d lot (stB d i).1 k = L at *
      have iL : i < L.length := by omega
      have gk : getN (kvsN numKey L) (numKey (lotK d lot k)) = (posOf L (lotK d lot k)).map fun i : Nat => (i : Int) := getN_kvs fun _ _ => numKey_inj
      have gp : getN (kvsN numKey (putX L (lotK d lot k))) (numKey (lotK d lot k)) = some ((atX L (lotK d lot k) : Nat) : Int) := by
        rw [getN_kvs fun _ _ => numKey_inj, posOf_put]
        rfl
      refine ⟨_, _, jgn 9 sc_law_lots.nd, js_cons (jset 10 (je_callH (i := (lot, d.costs.getD k [])) G1 hr (by omega) (ja_cons (je_ixLF (f := mNs) (xs := L) [] i (jpo 3 (by rw [← hL]; rfl)) (jv 7) rfl iL (by rw [hat])) (ja1 (je_ixLF (f := mLt) (xs := d.costs) [] k (jp_of (je_ix (jpv 0) (i := 2) (m := mLc d.costs) je_int rfl)) (jv 9) rfl kc))) sq) sc_law_lots.nd)
        (js_cons (jset 11 (m := mNs (lotK d lot k)) (je_callH (i := ledM lot (d.costs.getD k [])) G2 hr (by omega) (ja1 (jv 10)) ⟨fun h => by rw [h] at ln; simp at ln; omega, by rw [ln]; omega⟩) sc_law_lots.nd)
        (js_cons (js_if (r := .nx [.val (mWorld d), .val (mNat mo), .val (mStr d.asks), .own (oL ((putX L (lotK d lot k)).map mNs)), .own (oL (rowsM (putX L (lotK d lot k)).length)), .own (oN w (kvsN numKey (putX L (lotK d lot k)))), .own (oL ((stB d i).2.map mItL)), .val (mNat i), .own (oL (((List.range k).map (itemT d lot (stB d i).1)).map mPair)), .val (mInt (k : Int)), .val (mLs (ledM lot (d.costs.getD k []))), .val (mNs (lotK d lot k))])
            (jt_nnotin (i := 5) (kvs := kvsN numKey L) (k := numKey (lotK d lot k)) hu (jv 11) keyOf_nums ⟨_, rfl⟩ (by rw [← hL]; rfl) rfl) (fun z => ?_) (fun z => ?_))
        (js_one (js_app 8 (je_tup (ja_cons (je_nget (i := 5) (r := ((atX L (lotK d lot k) : Nat) : Int)) hu (jv 11) keyOf_nums ⟨_, rfl⟩ rfl ⟨_, rfl⟩ gp rfl) (ja1 (je_min (ns := ledM lot (d.costs.getD k [])) (jpv 10) (fun h => by rw [h] at ln; simp at ln; omega) T.b_min))) (Nat.le_of_ble_eq_true rfl)))))), (by repeat (first | exact Le.nil | refine Le.same ?_ | refine Le.drop ?_))⟩
      · have hno : lotK d lot k ∉ L := by
          rw [gk, Option.isSome_map] at z
          refine posOf_none.mp ?_
          cases q : posOf L (lotK d lot k) with
          | none => rfl
          | some j => rw [q] at z; cases z
        have gk' : getN (kvsN numKey L) (numKey (lotK d lot k)) = none := by rw [gk, posOf_none.mpr hno]; rfl
        rw [(atX_new hno).1]
        rw [List.map_append, kvsN_snoc, List.length_append, List.length_singleton, rowsM_succ]
        subst hL
        exact js_cons (js_nput (i := 5) (kvs := kvsN numKey (lotsT d lot (stB d i).1 k)) (r := ((lotsT d lot (stB d i).1 k).length : Int)) hu (je_of (je_lenL (jpo 3) T.b_len) (by rw [List.length_map])) (jv 11) keyOf_nums ⟨_, rfl⟩ rfl ⟨_, rfl⟩ gk' (by rw [kvsN_length]; omega) rfl)
          (js_cons (js_app 3 (jv 11) (hl := by rw [List.length_map]; omega))
          (js_one (js_app 4 (je_weak (je_addSh (je_ixLF (f := mSh) (xs := List.range (lotsT d lot (stB d i).1 k).length) 0 i (jpo 4) (jv 7) rfl (by simpa using iL) (m := mSh i) (by rw [List.getD_eq_getElem?_getD, List.getElem?_range iL]; rfl)) (je_weak (je_ixS (cc := d.asks.cps.toList.getD k 0) (jv 2) (jv 9) (by omega) (atI_nat (getD_some hk'))) (mSh_of (n := 1) (Nat.le_refl 1))) (by omega)) (mSh_le iL)) (hl := by rw [List.length_map, List.length_range]; omega))))
      · have hin : lotK d lot k ∈ L := by
          rw [gk, Option.isSome_map] at z
          cases q : posOf L (lotK d lot k) with
          | none => rw [q] at z; cases z
          | some j => exact List.mem_of_getElem? (posOf_some q).2
        rw [(atX_old hin).1]
        subst hL
        exact js_nil
    · show Le _ [_, _, _, .own (oL ((lotsT d ((stB d i).1.getD i []) (stB d i).1 d.asks.length).map mNs)), .own (oL (rowsM (lotsT d ((stB d i).1.getD i []) (stB d i).1 d.asks.length).length)), .own (oN w (kvsN numKey (lotsT d ((stB d i).1.getD i []) (stB d i).1 d.asks.length))), .own (oL (((stB d i).2 ++ [(List.range d.asks.length).map (itemT d ((stB d i).1.getD i []) (stB d i).1)]).map mItL)), _, _, _, _, _]
      rw [List.map_append, Int.toNat_natCast]
      exact (by repeat (first | exact Le.nil | refine Le.same ?_ | refine Le.drop ?_))
  have hne0 : d.begins ≠ [] := fun h => by rw [h] at hn; simp at hn
  have e0 : (([.val (mWorld d), .val (mNat mo), .val (mStr d.asks), .own (oL [mNs (lowM d.begins)]), .own (oL [mSh 0]), .own (oN w [(numKey (lowM d.begins), 0)]), .own (oL []), .any, .any, .any, .any, .any] : List Jd.Slot)) = llP w d mo 0 := rfl
  cases hR with
  | none h =>
    refine ⟨_, [.any, .any, .any, .any, .any, .any, .any, .any, .any, .any, .any, .any], js_cons (jset 2 (je_ix (jpv 0) (i := 0) (m := mStr d.asks) je_int rfl) sc_law_lots.nd)
      (js_cons (jsetO 3 (jo_lst (ja1 (je_callH (i := d.begins) G2 hr (by omega) (ja1 (je_ix (jpv 0) (i := 1) (m := mLs d.begins) je_int rfl)) ⟨hne0, hn.2⟩)) (Nat.le_of_ble_eq_true rfl)) sc_law_lots.nd)
      (js_cons (jsetO 4 (jo_lst (ja1 (je_weak je_str (mSh_of (n := 0) (Nat.le_refl 0)))) (Nat.le_of_ble_eq_true rfl)) sc_law_lots.nd)
      (js_cons (jsetO 5 jo_dnewN sc_law_lots.nd)
      (js_cons (js_nput (i := 5) (kvs := []) (r := 0) hu je_int (je_ix (jpo 3) (i := 0) (m := mNs (lowM d.begins)) je_int rfl) keyOf_nums ⟨_, rfl⟩ rfl ⟨_, rfl⟩ rfl (Nat.le_of_ble_eq_true rfl) rfl)
      (js_cons (jsetO 6 (jo_lst ja_nil (Nat.zero_le _)) sc_law_lots.nd)
      (js_cons (js_forN (fun i => llP w d mo i) (ji_range1 (je_add (jv 1) je_int) (by omega) (by omega) T.b_range) (by repeat (first | exact Le.nil | refine Le.same ?_ | refine Le.drop ?_)) (fun i hi => ⟨_, llP w d mo (i + 1), jgn 7 sc_law_lots.nd, turn i (by omega) (fun j hj => h j (by omega)), Le.rfl⟩) PassesOwn.never)
      (js_weakR (js_one (js_ret je_none)) (by repeat (first | exact Le.nil | refine Le.same ?_ | refine Le.drop ?_))))))))), .of (by rfl)⟩
  | some hT e b =>
    rename_i TT
    refine ⟨_, [.any, .any, .any, .any, .any, .any, .any, .any, .any, .any, .any, .any], js_cons (jset 2 (je_ix (jpv 0) (i := 0) (m := mStr d.asks) je_int rfl) sc_law_lots.nd)
      (js_cons (jsetO 3 (jo_lst (ja1 (je_callH (i := d.begins) G2 hr (by omega) (ja1 (je_ix (jpv 0) (i := 1) (m := mLs d.begins) je_int rfl)) ⟨hne0, hn.2⟩)) (Nat.le_of_ble_eq_true rfl)) sc_law_lots.nd)
      (js_cons (jsetO 4 (jo_lst (ja1 (je_weak je_str (mSh_of (n := 0) (Nat.le_refl 0)))) (Nat.le_of_ble_eq_true rfl)) sc_law_lots.nd)
      (js_cons (jsetO 5 jo_dnewN sc_law_lots.nd)
      (js_cons (js_nput (i := 5) (kvs := []) (r := 0) hu je_int (je_ix (jpo 3) (i := 0) (m := mNs (lowM d.begins)) je_int rfl) keyOf_nums ⟨_, rfl⟩ rfl ⟨_, rfl⟩ rfl (Nat.le_of_ble_eq_true rfl) rfl)
      (js_cons (jsetO 6 (jo_lst ja_nil (Nat.zero_le _)) sc_law_lots.nd)
      (js_rt (js_for (k := TT) (P := fun i => llP w d mo i) (B := fun i => (llP w d mo i).set 7 (.val (mInt (i : Int)))) (rs := fun i => if i = TT then .rt (mLots d TT) [.any, .any, .any, .any, .any, .any, .any, .any, .any, .any, .any, .any] else .nx (llP w d mo (i + 1))) (r := .rt (mLots d TT) [.any, .any, .any, .any, .any, .any, .any, .any, .any, .any, .any, .any])
        (ji_range1 (je_add (jv 1) je_int) (by omega) (by omega) T.b_range) (by repeat (first | exact Le.nil | refine Le.same ?_ | refine Le.drop ?_)) (by omega) (fun i _ _ => jgn 7 sc_law_lots.nd) (fun i hi hik => ?_) (fun i hi => ?_) (.inr ⟨by omega, ?_⟩) PassesOwn.never))))))), .of (by rfl)⟩
    · by_cases z : i = TT
      · rw [if_pos z]
        subst z
        exact js_weakR (js_rt (js_if (jt_eq (jv 7) (je_lenL (jpo 3) T.b_len)) (fun _ => js_one (js_ret (je_fz (jo_lst (ja_cons (jfz 3) (ja_cons (jfz 4) (ja1 (jfz 6)))) (Nat.le_of_ble_eq_true rfl))))) fun y => by
          have y := of_decide_eq_false y
          rw [List.length_map, e] at y
          exact absurd rfl y)) (by repeat (first | exact Le.nil | refine Le.same ?_ | refine Le.drop ?_))
      · rw [if_neg z]
        exact turn i (by omega) fun j hj => b j (by omega)
    · rw [if_neg (by omega)]
      exact .nx Le.rfl
    · show Leaves (if TT = TT then _ else _) _
      rw [if_pos rfl]
      exact .rt
end Afw

/-! text D22 -/
set_option Elab.async false
set_option linter.all false
set_option maxRecDepth 100000
set_option maxHeartbeats 4000000
namespace Afw
open PySem L2 PySem.Spec PyProof.Rows Jd
variable {P : Program} {w : World} {K : PySem.W.Frag} {mg : Str → Option Value} {base : Heap}
/-! ### the law's classes: the same signs, written flat -/
def sgKeyF (s : Sg) : NestedKey := .tup (.num s.1 :: s.2.map prK)
theorem sgKeyF_inj (s t : Sg) (h : sgKeyF s = sgKeyF t) : s = t := by
  unfold sgKeyF at h
  injection h with h
  injection h with h1 h2
  injection h1 with h1
  exact Prod.ext (by omega) (map_inj prK_inj _ _ h2)
abbrev mSgF (s : Sg) : Mp := mT (mNat s.1 :: s.2.map mPrN)
theorem keyOf_sgF {s : Sg} : KeyOf (mSgF s) (sgKeyF s) := by
  refine ⟨?_, fun H v h => ?_⟩
  · show NestedKey.depthAll _ + 1 ≤ 8
    have := depthAll_le (n := 1) (ks := .num s.1 :: s.2.map prK) fun k hk => by
      rcases List.mem_cons.mp hk with z | z
      · rw [z]; exact Nat.zero_le _
      · obtain ⟨p, _, rfl⟩ := List.mem_map.mp z
        exact depth_pr p
    omega
  · obtain ⟨a, vs, rfl, h1, h2⟩ := h
    unfold sgKeyF
    rw [keyP]
    cases vs with
    | nil => exact h2.elim
    | cons v vs =>
      refine ⟨a, v :: vs, rfl, h1, ?_⟩
      rw [keysP]
      refine ⟨v, vs, rfl, keyP_int h2.1, ?_⟩
      exact keysP_of (f := []) (fun i m k e1 e2 H v hm => by
        rw [List.getElem?_map] at e1 e2
        cases z : s.2[i]? with
        | none => rw [z] at e1; cases e1
        | some p => rw [z] at e1 e2; cases e1; cases e2; exact keyP_pr hm) (by simp) h2.2
abbrev mLL (st : StT) : Mp := mL (st.map mItL)
abbrev lcP (st : StT) (t : Nat) : List Jd.Slot := [.val (mLL st), .val (mL ((clB st t).1.map mNat)), .val (mNat (clB st t).2), .any, .any, .any, .any, .any, .any]
abbrev lcQ (w : World) (st : StT) (t k : Nat) : List Jd.Slot := [.val (mLL st), .val (mL ((clB st t).1.map mNat)), .val (mNat (clB st t).2), .any, .own (oN w (kvsN sgKeyF (knT st (clB st t).1 k))), .own (oL (((List.range k).map (fdT st (clB st t).1)).map mNat)), .any, .any, .any]
abbrev H_law_classes (P : Program) (w : World) (K : PySem.W.Frag) (mg : Str → Option Value) (base : Heap) : Prop := Has P w K mg base 1 "_law_classes" ["_law_steps"] (spP (fun p : StT × Nat => StepsOk p.1 p.2 ∧ p.2 ≤ 1000) (fun p => [mLL p.1]) fun p => mL ((clsM p.1).map mNat))
theorem ok_law_classes (T : Tx K mg) : H_law_classes P w K mg base := by
  obtain ⟨fd, D, B⟩ := T.D_law_classes
  refine ⟨fd, fn_pure D sc_law_classes (fun _ => rfl) (by decide) ?_, B, T.g_law_classes, D.kp⟩
  rintro ⟨st, c⟩ ⟨h, hc⟩ cdv A outer s H E e hr
  dsimp only at h hc ⊢
  have hn := h.n
  obtain ⟨N, hN, hE⟩ := cl_end hn.1
  rw [clsM_eq hN hE]
  have hu : (cxOf CX0 P w K mg base N_law_classes "_law_classes" (defScope (top 92)) (He.ga K "_law_classes") cdv A outer s H E).nox.A.units + 9 < cLine := room_u hr
  refine ⟨_, [.any, .any, .any, .any, .any, .any, .any, .any, .any], js_cons (jset 1 (je_fz (jo_rep (je_fzl (jo_lst (ja1 je_int) (Nat.le_of_ble_eq_true rfl))) (je_of (je_lenL (jpv 0) T.b_len) (by rw [List.length_map])) (by omega) (by omega))) sc_law_classes.nd)
    (js_cons (jset 2 je_int sc_law_classes.nd)
    (js_rt (js_for (k := N) (P := lcP st) (B := fun t => (lcP st t).set 3 (.val (mInt (t : Int)))) (rs := fun t => if t = N then .rt (mL ((clB st (N + 1)).1.map mNat)) [.any, .any, .any, .any, .any, .any, .any, .any, .any] else .nx (lcP st (t + 1))) (r := .rt (mL ((clB st (N + 1)).1.map mNat)) [.any, .any, .any, .any, .any, .any, .any, .any, .any])
      (ji_range1 (je_add (je_of (je_lenL (jpv 0) T.b_len) (by rw [List.length_map])) je_int) (by omega) (by omega) T.b_range) ?_ (by omega) (fun t _ _ => jgn 3 sc_law_classes.nd) (fun t ht1 ht => ?_) (fun t ht => ?_) (.inr ⟨by omega, ?_⟩) PassesOwn.never))), .rt⟩
  · show Le _ [_, .val (mL ((List.replicate st.length 0).map mNat)), .val (mInt 1), _, _, _, _, _, _]
    rw [List.map_replicate, Int.toNat_natCast]
    exact (by repeat (first | exact Le.nil | refine Le.same ?_ | refine Le.drop ?_))
  · have cl := clB_len st t
    refine js_cons (jsetO 4 jo_dnewN sc_law_classes.nd) (js_cons (jsetO 5 (jo_lst ja_nil (Nat.zero_le _)) sc_law_classes.nd)
      (js_cons (js_forN (lcQ w st t) (ji_range1 (je_of (je_lenL (jpv 0) T.b_len) (by rw [List.length_map])) (by omega) (by omega) T.b_range) (by repeat (first | exact Le.nil | refine Le.same ?_ | refine Le.drop ?_)) (fun k hk => ?_) PassesOwn.never) ?_))
    · rw [Int.toNat_natCast] at hk
      have hit := getD_mem (d := []) hk
      have il : (st.getD k []).length = c := h.l _ hit
      have kb : (knT st (clB st t).1 (k + 1)).length ≤ k + 1 := knT_len _ _ _
      have kb0 : (knT st (clB st t).1 k).length ≤ k := knT_len _ _ _
      show ∃ B s, JG _ _ _ _ _ _ ∧ JSs _ _ _ _ _ ∧ Le s [_, _, _, _, .own (oN w (kvsN sgKeyF (putX (knT st (clB st t).1 k) (signK st (clB st t).1 k)))), .own (oL (((List.range (k + 1)).map (fdT st (clB st t).1)).map mNat)), _, _, _]
      rw [range_map_succ, List.map_append]
      show ∃ B s, JG _ _ _ _ _ _ ∧ JSs _ _ _ _ _ ∧ Le s [_, _, _, _, _, .own (oL (((List.range k).map (fdT st (clB st t).1)).map mNat ++ [mNat (atX (knT st (clB st t).1 k) (signK st (clB st t).1 k))])), _, _, _]
      have kb' : (putX (knT st (clB st t).1 k) (signK st (clB st t).1 k)).length ≤ k + 1 := kb
      generalize hS : signK st (clB st t).1 k = S at kb'
      generalize hL : knT st (clB st t).1 k = L at kb' kb0
      have gk : getN (kvsN sgKeyF L) (sgKeyF S) = (posOf L S).map fun i : Nat => (i : Int) := getN_kvs sgKeyF_inj
      have gp : getN (kvsN sgKeyF (putX L S)) (sgKeyF S) = some ((atX L S : Nat) : Int) := by
        rw [getN_kvs sgKeyF_inj, posOf_put]
        rfl
      refine ⟨_, _, jgn 6 sc_law_classes.nd,
        js_cons (jset 7 (m := mSgF S) (je_of (je_tupOf (jp_of (je_fz (jo_cat (je_fzl (jo_lst (ja1 (je_ixLF (f := mNat) (xs := (clB st t).1) 0 k (jpv 1) (jv 6) rfl (by omega) (m := mNat ((clB st t).1.getD k 0)))) (Nat.le_of_ble_eq_true rfl))) (je_fzl (jo_lc1 (jx := 8) (fun i => mPrN ((clB st t).1.getD ((st.getD k []).getD i (0, 0)).1.toNat 0, ((st.getD k []).getD i (0, 0)).2)) (ji_map (f := mPair) (xs := st.getD k []) (0, 0) (.inl rfl) (je_ixLF (f := mItL) (xs := st) [] k (jpv 0) (jv 6) rfl hk) (g := fun i => mPair ((st.getD k []).getD i (0, 0))) (fun _ _ => rfl)) softA
          (fun i hi k2 s H C cl fp => je_tup (ja_cons (je_ixLF (f := mNat) (xs := (clB st t).1) 0 ((st.getD k []).getD i (0, 0)).1.toNat (jpv 1) (je_ixT (ms := [mInt ((st.getD k []).getD i (0, 0)).1, mInt ((st.getD k []).getD i (0, 0)).2]) (i := 0) (m := mInt ((st.getD k []).getD i (0, 0)).1) (jv 8) je_int rfl) ?_ ?_) (ja1 (je_ixT (ms := [mInt ((st.getD k []).getD i (0, 0)).1, mInt ((st.getD k []).getD i (0, 0)).2]) (i := 1) (m := mInt ((st.getD k []).getD i (0, 0)).2) (jv 8) je_int rfl))) (Nat.le_of_ble_eq_true rfl)) (by omega) sc_law_classes.nd)) (by rw [List.length_singleton, List.length_map, List.length_range]; omega)))) T.b_tuple) ?_) sc_law_classes.nd)
        (js_cons (js_if (r := .nx [.val (mLL st), .val (mL ((clB st t).1.map mNat)), .val (mNat (clB st t).2), .any, .own (oN w (kvsN sgKeyF (putX L S))), .own (oL (((List.range k).map (fdT st (clB st t).1)).map mNat)), .val (mInt (k : Int)), .val (mSgF S), .any])
            (jt_nnotin (i := 4) (kvs := kvsN sgKeyF L) (k := sgKeyF S) hu (jv 7) keyOf_sgF ⟨_, rfl⟩ (by rw [← hL]; rfl) rfl) (fun z => ?_) (fun z => ?_))
        (js_one (js_app 5 (je_nget (i := 4) (r := ((atX L S : Nat) : Int)) hu (jv 7) keyOf_sgF ⟨_, rfl⟩ rfl ⟨_, rfl⟩ gp rfl)))), (by repeat (first | exact Le.nil | refine Le.same ?_ | refine Le.drop ?_))⟩
      · have hm := h.k _ hit _ (getD_mem (d := (0, 0)) hi)
        omega
      · have hm := h.k _ hit _ (getD_mem (d := (0, 0)) hi)
        omega
      · subst hS
        rw [range_getD_map (xs := st.getD k []) (d := (0, 0)) (fun p => mPrN ((clB st t).1.getD p.1.toNat 0, p.2))]
        show mT (mNat _ :: List.map _ _) = mT (mNat _ :: List.map mPrN (List.map _ _))
        rw [List.map_map]
        rfl
      · have hno : S ∉ L := by
          rw [gk, Option.isSome_map] at z
          refine posOf_none.mp ?_
          cases q : posOf L S with
          | none => rfl
          | some j => rw [q] at z; cases z
        have gk' : getN (kvsN sgKeyF L) (sgKeyF S) = none := by rw [gk, posOf_none.mpr hno]; rfl
        rw [(atX_new hno).1, kvsN_snoc]
        subst hL
        exact js_one (js_nput (i := 4) (kvs := kvsN sgKeyF (knT st (clB st t).1 k)) (r := ((knT st (clB st t).1 k).length : Int)) hu (je_of (jlenN 4 T.b_len) (by rw [kvsN_length])) (jv 7) keyOf_sgF ⟨_, rfl⟩ rfl ⟨_, rfl⟩ gk' (by rw [kvsN_length]; omega) rfl)
      · have hin : S ∈ L := by
          rw [gk, Option.isSome_map] at z
          cases q : posOf L S with
          | none => rw [q] at z; cases z
          | some j => exact List.mem_of_getElem? (posOf_some q).2
        rw [(atX_old hin).1]
        subst hL
        exact js_nil
    · rw [Int.toNat_natCast]
      have hcmp : ((kvsN sgKeyF (knT st (clB st t).1 st.length)).length : Int) = ((clB st (t + 1)).2 : Int) := by rw [kvsN_length]; rfl
      by_cases z : t = N
      · rw [if_pos z]
        subst z
        refine js_weakR (js_rt (js_if (jt_eq (jlenN 4 T.b_len) (jv 2)) (fun _ => js_one (js_ret (jfz 5))) fun y => ?_)) (by repeat (first | exact Le.nil | refine Le.same ?_ | refine Le.drop ?_))
        have y := of_decide_eq_false y
        rw [hcmp, hE.e] at y
        exact absurd rfl y
      · rw [if_neg z]
        refine js_weak (js_cons (js_if (jt_eq (jlenN 4 T.b_len) (jv 2)) (fun y => ?_) fun _ => js_nil) (js_cons (jset 2 (m := mNat (clB st (t + 1)).2) (je_of (jlenN 4 T.b_len) (by rw [hcmp])) sc_law_classes.nd) (js_one (jset 1 (jfz 5) sc_law_classes.nd)))) (by repeat (first | exact Le.nil | refine Le.same ?_ | refine Le.drop ?_))
        have y := of_decide_eq_true y
        rw [hcmp] at y
        exact absurd (by omega) (hE.b t (by omega))
  · rw [if_neg (by omega)]
    exact .nx Le.rfl
  · show Leaves (if N = N then _ else _) _
    rw [if_pos rfl]
    exact .rt
end Afw

/-! text D23 -/
set_option Elab.async false
set_option linter.all false
set_option maxRecDepth 100000
set_option maxHeartbeats 4000000
namespace Afw
open PySem L2 PySem.Spec PyProof.Rows Jd
variable {P : Program} {w : World} {K : PySem.W.Frag} {mg : Str → Option Value} {base : Heap}
theorem shT_line {cls : List Nat} {it : List (Int × Int)} {a : List Nat × List Nat} : ∀ k, a.2.length ≤ (shT cls it a k).2.length
  | 0 => Nat.le_refl _
  | k + 1 => by
    have ih := shT_line (cls := cls) (it := it) (a := a) k
    show _ ≤ (if cf cls it k ∈ (shT cls it a k).1 then (shT cls it a k).2 else (shT cls it a k).2 ++ [kd it k]).length
    split
    · exact ih
    · rw [List.length_append]; omega
theorem shT_at {cls : List Nat} {it : List (Int × Int)} {a : List Nat × List Nat} {i : Nat} (h : i < a.2.length) : ∀ k, (shT cls it a k).2[i]? = a.2[i]?
  | 0 => rfl
  | k + 1 => by
    have ih := shT_at (cls := cls) (it := it) h k
    have hl := shT_line (cls := cls) (it := it) (a := a) k
    show (if cf cls it k ∈ (shT cls it a k).1 then (shT cls it a k).2 else (shT cls it a k).2 ++ [kd it k])[i]? = _
    split
    · exact ih
    · rw [List.getElem?_append_left (by omega)]; exact ih
theorem js_weakB {X : Cx} {e : En} {ss s s' : List Jd.Slot} {sts : List Stmt} (h : JSs X e sts ss (.bk s)) (l : Le s s') : JSs X e sts ss (.bk s') := PSs_mono h fun D σ H ⟨F, I, k⟩ => ⟨F, I, fun σ' F' H' x1 I1 => k σ' F' H' x1 (I1.weak l)⟩
theorem allP_w3 {H : Hp} {a b c : Mp} : ∀ {vs : List V}, allP H [a, b, c] vs → allP H [a, b, mTrue] vs
  | [_, _, _], h => ⟨h.1, h.2.1, trivial, trivial⟩
  | [], h => h.elim
  | [_], h => h.2.elim
  | [_, _], h => h.2.2.elim
  | _ :: _ :: _ :: _ :: _, h => h.2.2.2.elim
abbrev lsP (asks : Str) (first : Int) (st : StT) (cls : List Nat) (i : Nat) : List Jd.Slot := [.val (mStr asks), .val (mInt first), .val (mLL st), .val (mL (cls.map mNat)), .own (oL ((shB st cls asks.length i).1.2.map mNat)), .own (oL (rowsM (shB st cls asks.length i).1.2.length)), .own (oD (kvsNat (shB st cls asks.length i).1.1)), .own (oL ((shB st cls asks.length i).2.map mItL)), .any, .any, .any, .any, .any]
abbrev lsQ (asks : Str) (first : Int) (st : StT) (cls : List Nat) (it : List (Int × Int)) (items : StT) (a : List Nat × List Nat) (i k : Nat) : List Jd.Slot := [.val (mStr asks), .val (mInt first), .val (mLL st), .val (mL (cls.map mNat)), .own (oL ((shT cls it a k).2.map mNat)), .own (oL (rowsM (shT cls it a k).2.length)), .own (oD (kvsNat (shT cls it a k).1)), .own (oL (items.map mItL)), .val (mNat i), .own (oL (((List.range k).map (itemS cls it a)).map mPair)), .any, .any, .any]
abbrev mLMach (first : Int) (st : StT) : Mp := mL [mInt first, mLL st, mTrue]
abbrev H_law_shrunk (P : Program) (w : World) (K : PySem.W.Frag) (mg : Str → Option Value) (base : Heap) : Prop := Has P w K mg base 2 "_law_shrunk" ["_law_asks_here", "_law_first", "_law_steps"] (spP (fun p : Str × Int × StT => StepsOk p.2.2 p.1.length ∧ 1 ≤ p.1.length ∧ p.1.length ≤ 4) (fun p => [mStr p.1, mInt p.2.1, mLL p.2.2]) fun p => mLMach p.2.1 (shrM p.2.2 (clsM p.2.2) p.1.length))
theorem ok_law_shrunk (T : Tx K mg) (G : H_law_classes P w K mg base) : H_law_shrunk P w K mg base := by
  obtain ⟨fd, D, B⟩ := T.D_law_shrunk
  refine ⟨fd, fn_pure D sc_law_shrunk (fun _ => rfl) (by decide) ?_, B, T.g_law_shrunk, D.kp⟩
  rintro ⟨asks, first, st⟩ ⟨h, ha1, ha⟩ cdv A outer s H E e hr
  dsimp only at h ha ha1 ⊢
  have hn := h.n
  have hcl := clsM_ok h
  obtain ⟨t1, t2, t3⟩ := sh_stop h hcl
  show ∃ r ss', _ ∧ RetsTo r (mL [mInt first, mL ((shB st (clsM st) asks.length (shStop st (clsM st) asks.length)).2.map mItL), mTrue]) ss'
  have hcl1 := hcl.l
  generalize hCL : clsM st = cls at hcl t1 t2 t3 hcl1
  generalize shStop st cls asks.length = N at t1 t2 t3
  have hNe : (shB st cls asks.length N).1.2.length = N := by
    cases N with
    | zero => exact absurd t2 (by show ¬ (1 ≤ 0); omega)
    | succ n =>
      have a1 := t3 n (by omega)
      have a2 := shT_line (cls := cls) (it := st.getD ((shB st cls asks.length n).1.2.getD n 0) []) (a := (shB st cls asks.length n).1) asks.length
      have a3 : (shB st cls asks.length (n + 1)).1.2.length = (shT cls (st.getD ((shB st cls asks.length n).1.2.getD n 0) []) (shB st cls asks.length n).1 asks.length).2.length := rfl
      omega
  have hu : (cxOf CX0 P w K mg base N_law_shrunk "_law_shrunk" (defScope (top 93)) (He.ga K "_law_shrunk") cdv A outer s H E).nox.A.units + 1 < cLine := room_u hr
  refine ⟨_, _, js_cons (jset 3 (je_callH (i := (st, asks.length)) G hr (by omega) (ja1 (jv 2)) ⟨h, by show asks.length ≤ 1000; omega⟩ (m := mL (cls.map mNat)) (hm := by rw [← hCL])) sc_law_shrunk.nd)
    (js_cons (jsetO 4 (jo_lst (ja1 je_int) (Nat.le_of_ble_eq_true rfl)) sc_law_shrunk.nd)
    (js_cons (jsetO 5 (jo_lst (ja1 (je_weak je_str (mSh_of (n := 0) (Nat.le_refl 0)))) (Nat.le_of_ble_eq_true rfl)) sc_law_shrunk.nd)
    (js_cons (jsetO 6 jo_inew sc_law_shrunk.nd)
    (js_cons (js_iput (s := 6) (i := ((cls.getD 0 0 : Nat) : Int)) (kvs := []) (r := 0) hu je_int (je_ixLF (f := mNat) (xs := cls) 0 0 (jpv 3) je_int rfl (by omega)) rfl ⟨_, rfl⟩ rfl (Nat.le_of_ble_eq_true rfl) rfl)
    (js_cons (jsetO 7 (jo_lst ja_nil (Nat.zero_le _)) sc_law_shrunk.nd)
    (js_cons (js_for (k := N) (P := lsP asks first st cls) (B := fun i => (lsP asks first st cls i).set 8 (.val (mInt (i : Int)))) (rs := fun i => if i = N then .bk (lsP asks first st cls N) else .nx (lsP asks first st cls (i + 1))) (r := .nx (lsP asks first st cls N))
      (ji_range1 (je_add (je_of (je_lenL (jpv 2) T.b_len) (by rw [List.length_map])) je_int) (by omega) (by omega) T.b_range) (by repeat (first | exact Le.nil | refine Le.same ?_ | refine Le.drop ?_)) (by omega) (fun i _ _ => jgn 8 sc_law_shrunk.nd) (fun i hi1 hik => ?_) (fun i hi => ?_) (.inr ⟨by omega, ?_⟩) PassesOwn.never)
    (js_one (js_ret (je_weak (je_fz (jo_lst (ja_cons (jv 1) (ja_cons (jfz 7) (ja1 (jfz 5)))) (Nat.le_of_ble_eq_true rfl))) fun H v hv => by
      obtain ⟨a, vs, e1, e2, e3⟩ := hv
      exact ⟨a, vs, e1, e2, allP_w3 e3⟩))))))))), .of rfl⟩
  · by_cases z : i = N
    · rw [if_pos z]
      subst z
      exact js_weakB (js_bk (js_if (jt_eq (jv 8) (je_lenL (jpo 4) T.b_len)) (fun _ => js_one js_break) fun y => by
        have y := of_decide_eq_false y
        rw [List.length_map, hNe] at y
        exact absurd rfl y)) (by repeat (first | exact Le.nil | refine Le.same ?_ | refine Le.drop ?_))
    rw [if_neg z]
    have hi2 : i < (shB st cls asks.length i).1.2.length := t3 i (by omega)
    have hok := shB_ok h hcl i
    have hkn : (shB st cls asks.length i).1.2.getD i 0 < st.length := hok.k _ (getD_mem hi2)
    have hmem := getD_mem (d := []) hkn
    have il : (st.getD ((shB st cls asks.length i).1.2.getD i 0) []).length = asks.length := h.l _ hmem
    show JSs _ _ _ _ (.nx [_, _, _, _, .own (oL ((shT cls (st.getD ((shB st cls asks.length i).1.2.getD i 0) []) (shB st cls asks.length i).1 asks.length).2.map mNat)), .own (oL (rowsM (shT cls (st.getD ((shB st cls asks.length i).1.2.getD i 0) []) (shB st cls asks.length i).1 asks.length).2.length)), .own (oD (kvsNat (shT cls (st.getD ((shB st cls asks.length i).1.2.getD i 0) []) (shB st cls asks.length i).1 asks.length).1)), .own (oL (((shB st cls asks.length i).2 ++ [(List.range asks.length).map (itemS cls (st.getD ((shB st cls asks.length i).1.2.getD i 0) []) (shB st cls asks.length i).1)]).map mItL)), _, _, _, _, _])
    rw [List.map_append]
    refine js_cons (js_if (jt_eq (jv 8) (je_lenL (jpo 4) T.b_len)) (fun y => ?_) fun _ => js_nil) (js_cons (jsetO 9 (jo_lst ja_nil (Nat.zero_le _)) sc_law_shrunk.nd)
      (js_cons (js_forN (fun k => lsQ asks first st cls (st.getD ((shB st cls asks.length i).1.2.getD i 0) []) (shB st cls asks.length i).2 (shB st cls asks.length i).1 i k) (ji_range1 (je_lenS (jv 0) (by omega) T.b_len) (by omega) (by omega) T.b_range) (by repeat (first | exact Le.nil | refine Le.same ?_ | refine Le.drop ?_)) (fun k hk => ?_) PassesOwn.never)
      (js_weak (js_one (js_app 7 (jfz 9) (hl := by rw [List.length_map, shB_items]; omega))) (by rw [Int.toNat_natCast]; exact (by repeat (first | exact Le.nil | refine Le.same ?_ | refine Le.drop ?_))))))
    · have y := of_decide_eq_true y
      rw [List.length_map] at y
      omega
    · have hk' : k < asks.length := by omega
      obtain ⟨k1, k2⟩ := kd_lt h hmem hk'
      have sok := shT_ok h hcl hmem hok k (by omega)
      have sln : (shT cls (st.getD ((shB st cls asks.length i).1.2.getD i 0) []) (shB st cls asks.length i).1 k).1.length ≤ st.length := nodup_lt _ _ sok.d sok.b
      have hIL := sok.l
      have hat : (shT cls (st.getD ((shB st cls asks.length i).1.2.getD i 0) []) (shB st cls asks.length i).1 k).2.getD i 0 = (shB st cls asks.length i).1.2.getD i 0 := by
        rw [List.getD_eq_getElem?_getD, shT_at hi2, ← List.getD_eq_getElem?_getD]
      have hln := shT_line (cls := cls) (it := st.getD ((shB st cls asks.length i).1.2.getD i 0) []) (a := (shB st cls asks.length i).1) k
      show ∃ B s, JG _ _ _ _ _ _ ∧ JSs _ _ _ _ _ ∧ Le s [_, _, _, _, .own (oL ((if cf cls (st.getD ((shB st cls asks.length i).1.2.getD i 0) []) k ∈ (shT cls (st.getD ((shB st cls asks.length i).1.2.getD i 0) []) (shB st cls asks.length i).1 k).1 then (shT cls (st.getD ((shB st cls asks.length i).1.2.getD i 0) []) (shB st cls asks.length i).1 k).2 else (shT cls (st.getD ((shB st cls asks.length i).1.2.getD i 0) []) (shB st cls asks.length i).1 k).2 ++ [kd (st.getD ((shB st cls asks.length i).1.2.getD i 0) []) k]).map mNat)), .own (oL (rowsM (if cf cls (st.getD ((shB st cls asks.length i).1.2.getD i 0) []) k ∈ (shT cls (st.getD ((shB st cls asks.length i).1.2.getD i 0) []) (shB st cls asks.length i).1 k).1 then (shT cls (st.getD ((shB st cls asks.length i).1.2.getD i 0) []) (shB st cls asks.length i).1 k).2 else (shT cls (st.getD ((shB st cls asks.length i).1.2.getD i 0) []) (shB st cls asks.length i).1 k).2 ++ [kd (st.getD ((shB st cls asks.length i).1.2.getD i 0) []) k]).length)), .own (oD (kvsNat (putX (shT cls (st.getD ((shB st cls asks.length i).1.2.getD i 0) []) (shB st cls asks.length i).1 k).1 (cf cls (st.getD ((shB st cls asks.length i).1.2.getD i 0) []) k)))), _, _, .own (oL (((List.range (k + 1)).map (itemS cls (st.getD ((shB st cls asks.length i).1.2.getD i 0) []) (shB st cls asks.length i).1)).map mPair)), _, _, _]
      rw [range_map_succ, List.map_append]
      generalize hkd : (shB st cls asks.length i).1.2.getD i 0 = kind at *
      generalize hit : st.getD kind [] = it at *
      have eI : mPair (itemS cls it (shB st cls asks.length i).1 k) = mT [mNat (atX (shT cls it (shB st cls asks.length i).1 k).1 (cf cls it k)), mInt (it.getD k (0, 0)).2] := rfl
      show ∃ B s, JG _ _ _ _ _ _ ∧ JSs _ _ _ _ _ ∧ Le s [_, _, _, _, _, _, _, _, _, .own (oL (_ ++ [mPair (itemS cls it (shB st cls asks.length i).1 k)])), _, _, _]
      rw [eI]
      generalize hL : shT cls it (shB st cls asks.length i).1 k = L at *
      have gk : getI (kvsNat L.1) ((cf cls it k : Nat) : Int) = (posOf L.1 (cf cls it k)).map fun i : Nat => (i : Int) := getI_nat
      have gp : getI (kvsNat (putX L.1 (cf cls it k))) ((cf cls it k : Nat) : Int) = some ((atX L.1 (cf cls it k) : Nat) : Int) := by
        rw [getI_nat, posOf_put]
        rfl
      have iL : i < L.2.length := by omega
      refine ⟨_, _, jgn 10 sc_law_shrunk.nd,
        js_cons (jset 11 (m := mPair (it.getD k (0, 0))) (je_ixLF (f := mPair) (xs := it) (0, 0) k (jp_of (je_ixLF (f := mItL) (xs := st) [] kind (jpv 2) (je_ixLF (f := mNat) (xs := L.2) 0 i (jpo 4 (by rw [← hL]; rfl)) (jv 8) rfl iL (by rw [hat])) rfl hkn (by rw [hit]))) (jv 10) rfl (by omega)) sc_law_shrunk.nd)
        (js_cons (jset 12 (m := mNat (cf cls it k)) (je_ixLF (f := mNat) (xs := cls) 0 (kd it k) (jpv 3) (je_ixT (ms := [mInt (it.getD k (0, 0)).1, mInt (it.getD k (0, 0)).2]) (i := 0) (m := mInt (it.getD k (0, 0)).1) (jv 11) je_int rfl) k2 (by omega)) sc_law_shrunk.nd)
        (js_cons (js_if (r := .nx [.val (mStr asks), .val (mInt first), .val (mLL st), .val (mL (cls.map mNat)), .own (oL ((if cf cls it k ∈ L.1 then L.2 else L.2 ++ [kd it k]).map mNat)), .own (oL (rowsM (if cf cls it k ∈ L.1 then L.2 else L.2 ++ [kd it k]).length)), .own (oD (kvsNat (putX L.1 (cf cls it k)))), .own (oL ((shB st cls asks.length i).2.map mItL)), .val (mNat i), .own (oL (((List.range k).map (itemS cls it (shB st cls asks.length i).1)).map mPair)), .val (mInt (k : Int)), .val (mPair (it.getD k (0, 0))), .val (mNat (cf cls it k))])
            (jt_inotin (s := 6) (i := ((cf cls it k : Nat) : Int)) (kvs := kvsNat L.1) hu (jv 12) (by rw [← hL]; rfl) rfl) (fun z => ?_) (fun z => ?_))
        (js_one (js_app 9 (je_tup (ja_cons (je_iget (s := 6) (i := ((cf cls it k : Nat) : Int)) (r := ((atX L.1 (cf cls it k) : Nat) : Int)) hu (jv 12) rfl ⟨_, rfl⟩ gp rfl) (ja1 (je_ixT (ms := [mInt (it.getD k (0, 0)).1, mInt (it.getD k (0, 0)).2]) (i := 1) (m := mInt (it.getD k (0, 0)).2) (jv 11) je_int rfl))) (Nat.le_of_ble_eq_true rfl)))))), (by repeat (first | exact Le.nil | refine Le.same ?_ | refine Le.drop ?_))⟩
      · have hno : cf cls it k ∉ L.1 := by
          rw [gk, Option.isSome_map] at z
          refine posOf_none.mp ?_
          cases q : posOf L.1 (cf cls it k) with
          | none => rfl
          | some j => rw [q] at z; cases z
        have gk' : getI (kvsNat L.1) ((cf cls it k : Nat) : Int) = none := by rw [gk, posOf_none.mpr hno]; rfl
        rw [(atX_new hno).1, if_neg hno, kvsNat_snoc, List.map_append, List.length_append, List.length_singleton, rowsM_succ]
        subst hL
        exact js_cons (js_iput (s := 6) (i := ((cf cls it k : Nat) : Int)) (kvs := kvsNat (shT cls it (shB st cls asks.length i).1 k).1) (r := ((shT cls it (shB st cls asks.length i).1 k).1.length : Int)) hu (je_of (je_lenL (jpo 4) T.b_len) (by rw [List.length_map, hIL])) (jv 12) rfl ⟨_, rfl⟩ gk' (by rw [kvsNat_length]; omega) rfl)
          (js_cons (js_app 4 (je_of (je_ixT (ms := [mInt (it.getD k (0, 0)).1, mInt (it.getD k (0, 0)).2]) (i := 0) (m := mInt (it.getD k (0, 0)).1) (jv 11) je_int rfl) (show mInt (it.getD k (0, 0)).1 = mNat (kd it k) by rw [k2])) (hl := by rw [List.length_map]; omega))
          (js_one (js_app 5 (je_weak (je_addSh (je_ixLF (f := mSh) (xs := List.range (shT cls it (shB st cls asks.length i).1 k).2.length) 0 i (jpo 5) (jv 8) rfl (by simpa using iL) (m := mSh i) (by rw [List.getD_eq_getElem?_getD, List.getElem?_range iL]; rfl)) (je_weak (je_ixS (cc := asks.cps.toList.getD k 0) (jv 0) (jv 10) (by omega) (atI_nat (getD_some hk'))) (mSh_of (n := 1) (Nat.le_refl 1))) (by omega)) (mSh_le iL)) (hl := by rw [List.length_map, List.length_range]; omega))))
      · have hin : cf cls it k ∈ L.1 := by
          rw [gk, Option.isSome_map] at z
          cases q : posOf L.1 (cf cls it k) with
          | none => rw [q] at z; cases z
          | some j => exact List.mem_of_getElem? (posOf_some q).2
        rw [(atX_old hin).1, if_pos hin]
        subst hL
        exact js_nil
  · rw [if_neg (by omega)]
    exact .nx Le.rfl
  · show Leaves (if N = N then _ else _) _
    rw [if_pos rfl]
    exact .bk
end Afw

/-! text D24 -/
set_option Elab.async false
set_option linter.all false
set_option maxRecDepth 100000
set_option maxHeartbeats 4000000
namespace Jd
open PySem L2 PySem.Spec PyProof.Rows
/-- (a, b, ..) = a list -/
theorem jg_unl {X : Cx} {e : En} {ss ss1 : List Slot} {pos : Pos} {es : List Expr} {ms : List Mp} {kk : Nat} (h : JGs X e es ms ss ss1) (hl : (assignEach es X.env).length = ms.length := by rfl) (hc : X.calm = true := by rfl) (hst : (assignEach es X.env).findIdx? (·.1) = none := by rfl) : JG X e (.Tuple es kk pos) (mL ms) ss ss1 :=
  PG_mono (pg_unl hc h hl hst) fun v σ H Q ⟨F, I, hv, k⟩ => by
    obtain ⟨ad, vs, rfl, hT, hA⟩ := hv
    exact ⟨ad, vs, rfl, .inl (Rd.up I.sub hT), hA.length, F, I, hA, k⟩
end Jd
namespace Afw
open PySem L2 PySem.Spec PyProof.Rows Jd
variable {P : Program} {w : World} {K : PySem.W.Frag} {mg : Str → Option Value} {base : Heap}
/-- what _law_machine hands back -/
inductive MachR (d : StD) (mo : Nat) : Mp → Prop where
  | some {T : Nat} (h : T ≤ mo) (e : StEnd d T) : MachR d mo (mLMach (smF d T) (machM d T))
  | none (h : ∀ i, i ≤ mo → (stB d i).1.length ≠ i) : MachR d mo mNone
abbrev H_law_machine (P : Program) (w : World) (K : PySem.W.Frag) (mg : Str → Option Value) (base : Heap) : Prop := Has P w K mg base 3 "_law_machine" ["_law_world_here", "_law_most"] (spP (fun p : StD × Nat × Mp => StOk p.1 ∧ p.2.1 ≤ 900 ∧ MachR p.1 p.2.1 p.2.2) (fun p => [mWorld p.1, mNat p.2.1]) fun p => p.2.2)
theorem ok_law_machine (T : Tx K mg) (G1 : H_law_lots P w K mg base) (G2 : H_law_shrunk P w K mg base) : H_law_machine P w K mg base := by
  obtain ⟨fd, D, B⟩ := T.D_law_machine
  refine ⟨fd, fn_pure D sc_law_machine (fun _ => rfl) (by decide) ?_, B, T.g_law_machine, D.kp⟩
  rintro ⟨d, mo, res⟩ ⟨hd, hmo, hR⟩ cdv A outer s H E e hr
  dsimp only at hd hmo hR ⊢
  have hs := askOk_size hd.a
  have hn := hd.n
  have he := hd.e
  cases hR with
  | none h => exact ⟨_, _, js_cons (jset 2 (je_callH (i := (d, mo, mNone)) G1 hr (by omega) (ja_cons (jv 0) (ja1 (jv 1))) ⟨hd, hmo, .none h⟩) sc_law_machine.nd) (js_rt (js_if (t := true) (jt_isN (jv 2) nonB_none) (fun _ => js_one (js_ret je_none)) fun z => by cases z)), .rt⟩
  | some hT hE =>
    rename_i N
    have hN : N ≤ 900 := by omega
    have hall := stB_all N hE.b N (Nat.le_refl _)
    have hlc : (smC d N).length = N := by unfold smC; rw [List.length_map, hE.e]
    have hls := stB_steps (d := d) N
    have ok := smI_ok hE hN
    have hN1 : 1 ≤ N := by have := ok.n; unfold smI at this; simpa using this.1
    have hlot : LotsR d mo (mLots d N) := .some hT hE.e fun i hi => by have := hE.b i hi; omega
    refine ⟨_, _, js_cons (jset 2 (je_callH (i := (d, mo, mLots d N)) G1 hr (by omega) (ja_cons (jv 0) (ja1 (jv 1))) ⟨hd, hmo, hlot⟩) sc_law_machine.nd)
      (js_cons (js_if (t := false) (jt_isN (jv 2) nonB_L) (fun z => by cases z) fun _ => js_nil)
      (js_cons (js_asg (jv 2) (jg_unl (jgs_cons (jgn 3 sc_law_machine.nd) (jgs_cons (jgn 4 sc_law_machine.nd) (jgs_cons (jgn 5 sc_law_machine.nd) jgs_nil)))))
      (js_cons (jsetO 6 (jo_lc1 (jx := 9) (fun i => mInt (minL (addM ((stB d N).1.getD i []) d.ends))) (ji_map (f := mNs) (xs := (stB d N).1) [] (.inl rfl) (jv 3) (g := fun i => mNs ((stB d N).1.getD i [])) (fun _ _ => rfl)) softA
        (fun i hi k s H C cl fp => je_of (je_min (ns := addM ((stB d N).1.getD i []) d.ends) (jp_of (je_of (je_fz (jo_lc2 10 11 (u := fun j => mInt (((stB d N).1.getD i []).getD j 0)) (v := fun j => mInt (d.ends.getD j 0)) (fun j => mInt (((stB d N).1.getD i []).getD j 0 + d.ends.getD j 0)) (ji_congr (N' := d.begins.length) (ys' := fun j => mT [mInt (((stB d N).1.getD i []).getD j 0), mInt (d.ends.getD j 0)]) (pi_zip2J (rJ_tup (jv 9)) (rJ_list (je_ix (jpv 0) (i := 3) (m := mLs d.ends) je_int rfl)) T.b_zip) ?_ ?_) softA softA (fun j hj k s H C cl fp => je_add (jv 10) (jv 11)) (by omega) sc_law_machine.nd)) ?_)) ?_ T.b_min) rfl) (by rw [hE.e]; omega) sc_law_machine.nd) sc_law_machine.nd)
      (js_cons (jsetO 7 (jo_lst ja_nil (Nat.zero_le _)) sc_law_machine.nd)
      (js_cons (js_forN (fun k => [.val (mWorld d), .val (mNat mo), .any, .any, .any, .val (mL ((stB d N).2.map mItL)), .own (oL ((smC d N).map mInt)), .own (oL (((List.range k).map fun k => smIt (smC d N) k ((stB d N).2.getD k [])).map mItL)), .any, .any, .any, .any, .any])
        (ji_range1 (je_of (je_lenL (jpv 5) T.b_len) (by rw [List.length_map])) (by omega) (by omega) T.b_range) ?_ (fun k hk => ⟨_, _, jgn 8 sc_law_machine.nd,
          js_one (js_app 7 (m := mItL (smIt (smC d N) k ((stB d N).2.getD k []))) (je_of (je_fz (jo_lc1 (jx := 12) (fun i => mPair ((((stB d N).2.getD k []).getD i (0, 0)).1, (((stB d N).2.getD k []).getD i (0, 0)).2 + (smC d N).getD (((stB d N).2.getD k []).getD i (0, 0)).1.toNat 0 - (smC d N).getD k 0)) (ji_map (f := mPair) (xs := (stB d N).2.getD k []) (0, 0) (.inl rfl) (je_ixLF (f := mItL) (xs := (stB d N).2) [] k (jpv 5) (jv 8) rfl (by omega)) (g := fun i => mPair (((stB d N).2.getD k []).getD i (0, 0))) (fun _ _ => rfl)) softA
            (fun i hi k2 s H C cl fp => je_tup (ja_cons (je_ixT (ms := [mInt (((stB d N).2.getD k []).getD i (0, 0)).1, mInt (((stB d N).2.getD k []).getD i (0, 0)).2]) (i := 0) (m := mInt (((stB d N).2.getD k []).getD i (0, 0)).1) (jv 12) je_int rfl) (ja1 (je_sub (je_add (je_ixT (ms := [mInt (((stB d N).2.getD k []).getD i (0, 0)).1, mInt (((stB d N).2.getD k []).getD i (0, 0)).2]) (i := 1) (m := mInt (((stB d N).2.getD k []).getD i (0, 0)).2) (jv 12) je_int rfl) (je_ixLF (f := mInt) (xs := smC d N) 0 (((stB d N).2.getD k []).getD i (0, 0)).1.toNat (jpo 6) (je_ixT (ms := [mInt (((stB d N).2.getD k []).getD i (0, 0)).1, mInt (((stB d N).2.getD k []).getD i (0, 0)).2]) (i := 0) (m := mInt (((stB d N).2.getD k []).getD i (0, 0)).1) (jv 12) je_int rfl) ?_ ?_)) (je_ixLF (f := mInt) (xs := smC d N) 0 k (jpo 6) (jv 8) rfl (by omega))))) (Nat.le_of_ble_eq_true rfl)) ?_ sc_law_machine.nd)) ?_) (hl := by simp; omega)), ?_⟩) PassesOwn.never)
      (js_one (js_ret (je_callH (i := (d.asks, smF d N, smI d N)) G2 hr (by omega) (ja_cons (je_ix (jpv 0) (i := 0) (m := mStr d.asks) je_int rfl) (ja_cons (je_add (je_min (ns := d.begins) (jp_of (je_ix (jpv 0) (i := 1) (m := mLs d.begins) je_int rfl)) (fun h => by rw [h] at hn; simp at hn) T.b_min) (je_ixLF (f := mInt) (xs := smC d N) 0 0 (jpo 6) je_int rfl (by omega))) (ja1 (je_of (jfz 7) ?_)))) ⟨ok, hs.1, hs.2⟩)))))))), .of rfl⟩
    · intro j hj
      have := hall _ (getD_mem (d := []) hi)
      rw [List.length_map, List.length_map] at hj
      rw [getD_map (d := 0) (by omega), getD_map (d := 0) (by omega)]
    · have := hall _ (getD_mem (d := []) hi)
      rw [List.length_map, List.length_map]
      omega
    · have h2 := hall _ (getD_mem (d := []) hi)
      show mL _ = mL _
      unfold addM
      rw [List.map_map, h2]
      rfl
    · intro hz
      have h2 := hall _ (getD_mem (d := []) hi)
      unfold addM at hz
      rw [List.map_eq_nil_iff, List.range_eq_nil] at hz
      omega
    · have e : (List.range (stB d N).1.length).map (fun i => mInt (minL (addM ((stB d N).1.getD i []) d.ends))) = (smC d N).map mInt := by
        rw [range_getD_map (d := []) (fun l => mInt (minL (addM l d.ends)))]
        unfold smC
        rw [List.map_map]
        rfl
      rw [e]
      exact (by repeat (first | exact Le.nil | refine Le.same ?_ | refine Le.drop ?_))
    · have := (stB_it N _ (getD_mem (d := []) (show k < (stB d N).2.length by omega))).2 _ (getD_mem (d := (0, 0)) hi)
      omega
    · have := (stB_it N _ (getD_mem (d := []) (show k < (stB d N).2.length by omega))).2 _ (getD_mem (d := (0, 0)) hi)
      have h2 := hE.e
      omega
    · have := (stB_it N _ (getD_mem (d := []) (show k < (stB d N).2.length by omega))).1
      omega
    · rw [range_getD_map (d := (0, 0)) (fun p => mPair (p.1, p.2 + (smC d N).getD p.1.toNat 0 - (smC d N).getD k 0))]
      show mL _ = mL (List.map mPair (List.map _ _))
      rw [List.map_map]
      rfl
    · rw [range_map_succ, List.map_append]
      exact (by repeat (first | exact Le.nil | refine Le.same ?_ | refine Le.drop ?_))
    · rw [Int.toNat_natCast, hls]
      rfl
end Afw

/-! text D25 -/
set_option Elab.async false
set_option linter.all false
set_option maxRecDepth 100000
set_option maxHeartbeats 4000000
namespace Afw
open PySem L2 PySem.Spec PyProof.Rows Jd
variable {P : Program} {w : World} {K : PySem.W.Frag} {mg : Str → Option Value} {base : Heap}
/-- a row over the asks of at most n letters -/
def mRow (asks : Str) (n : Int) : Mp := mE (fun cs : List Nat => (cs.length : Int) ≤ n ∧ ∀ c ∈ cs, c ∈ asks.cps.toList) (fun cs => mStr ⟨cs.toArray⟩)
theorem row_in {asks : Str} {n z : Int} (hz : 0 ≤ z ∧ z < n + 1) : ∀ H v, (mE (fun cs : List Nat => cs.length = z.toNat ∧ ∀ c ∈ cs, c ∈ asks.cps.toList) (fun cs => mStr ⟨cs.toArray⟩)).p H v → (mRow asks n).p H v := by
  intro H v h
  obtain ⟨cs, ⟨c1, c2⟩, c3⟩ := h
  exact ⟨cs, ⟨by omega, c2⟩, c3⟩
abbrev H_law_row (P : Program) (w : World) (K : PySem.W.Frag) (mg : Str → Option Value) (base : Heap) : Prop := Has P w K mg base 2 "_law_row" ["_law_source_here", "_law_asks_here", "_law_longest"] (Jd.spB (fun p : Str × Int => 1 ≤ p.1.length ∧ p.1.length ≤ 1000 ∧ 0 ≤ p.2 ∧ p.2 < 1000) (fun _ => oSrc) (fun _ => oSrc) (fun p => [mStr p.1, mInt p.2]) fun p => mRow p.1 p.2)
theorem ok_law_row (T : Tx K mg) (G : H_law_draw P w K mg base) : H_law_row P w K mg base := by
  obtain ⟨fd, D, B⟩ := T.D_law_row
  refine ⟨fd, fn_bor D sc_law_row (fun _ => rfl) (by decide) ?_, B, T.g_law_row, D.kp⟩
  rintro ⟨asks, n⟩ ⟨h1, h2, h3, h4⟩ cdv A outer s H E e ad hr
  dsimp only at h1 h2 h3 h4 ⊢
  refine ⟨.rt (mRow asks n) [.bor ad oSrc, .any, .any, .any, .any], [.bor ad oSrc, .any, .any, .any, .any], js_cons (jset 3 (je_callSB (i := n + 1) 0 G hr (by omega) (ja1 (je_add (jv 2) je_int)) ⟨by omega, by omega⟩) sc_law_row.nd) (js_exV (p := fun i : Int => 0 ≤ i ∧ i < n + 1) (f := mInt) 3 fun z hz => ?_), .rt, rfl⟩
  exact js_weakR (js_one (js_ret (je_weak (je_joinE je_str (je_fz (jo_lc1 (jx := 4) (fun _ => mE (fun c : Nat => c ∈ asks.cps.toList) fun c => mStr (chrC c)) (ji_range1 (jv 3) (by omega) (by omega) T.b_range) softA (fun i hi k s H C cl fp => je_ixSR (k := asks.length) (jv 1) (je_callSB (i := (asks.length : Int)) 0 G hr (by omega) (ja1 (je_lenS (jv 1) (by omega) T.b_len)) ⟨by omega, by omega⟩) (by omega) (Int.le_refl _)) (by omega) sc_law_row.nd)) (by omega))
    (row_in hz)))) (by repeat (first | exact Le.nil | refine Le.same ?_ | refine Le.drop ?_))
end Afw

/-! text D26 -/
set_option Elab.async false
set_option linter.all false
set_option maxRecDepth 100000
set_option maxHeartbeats 4000000
namespace Afw
open PySem L2 PySem.Spec PyProof.Rows Jd
variable {P : Program} {w : World} {K : PySem.W.Frag} {mg : Str → Option Value} {base : Heap}
theorem je_add1R {X : Cx} {e : En} {ss ss1 ss2 : List Jd.Slot} {a b : Expr} {pos : Pos} {i k : Int} (ha : JE X e a ss (mInt i) ss1) (hb : JE X e b ss1 (mRng k) ss2) : JE X e (.BinOp a .Add b pos) ss (mE (fun j : Int => i ≤ j ∧ j < i + k) mInt) ss2 :=
  je_op (m := mInt i) (n := mRng k) (o := mE (fun j : Int => i ≤ j ∧ j < i + k) mInt) op_add (fun F H x y Q _ hx ⟨j, ⟨h1, h2⟩, hy⟩ q => ⟨i, j, hx, hy, q _ ⟨i + j, ⟨by omega, by omega⟩, rfl⟩⟩) ha hb
def mDoor (n : Nat) : Mp := mE (fun o : Option Int => ∀ i, o = some i → 0 ≤ i ∧ i < n) mOpt
abbrev mOs (os : List (Option Int)) : Mp := mL (os.map mOpt)
def mItE (c n : Nat) : Mp := mE (fun os : List (Option Int) => os.length = c ∧ ∀ o ∈ os, ∀ i, o = some i → 0 ≤ i ∧ i < n) mOs
abbrev mGs (gs : List (List (Option Int))) : Mp := mL (gs.map mOs)
def mGtE (asks : Str) : Mp := mE (fun gs : List (List (Option Int)) => GateOk asks gs ∧ gs.length ≤ 4) mGs
theorem itE_in {c n : Nat} : ∀ H v, (mL ((List.range c).map fun _ => mDoor n)).p H v → (mItE c n).p H v := by
  intro H v h
  exact mL_E (p := fun o : Option Int => ∀ i, o = some i → 0 ≤ i ∧ i < n) (f := mOpt) H v h
theorem itR_in {c n : Nat} : ∀ H v, (mL ((List.range c).map fun _ => mRng n)).p H v → (mItE c n).p H v := by
  intro H v h
  obtain ⟨xs, ⟨h1, h2⟩, h3⟩ := mL_E (p := fun i : Int => 0 ≤ i ∧ i < n) (f := mInt) H v h
  refine ⟨xs.map some, ⟨by rw [List.length_map, h1], fun o ho i hi => ?_⟩, ?_⟩
  · obtain ⟨x, hx, rfl⟩ := List.mem_map.mp ho
    cases hi
    exact h2 i hx
  · show (mL (List.map mOpt (List.map some xs))).p H v
    rw [List.map_map]
    exact h3
theorem gtE_in {asks : Str} {n : Nat} (ha : askOk asks = true) (h1 : 1 ≤ n) (h2 : n ≤ 4) : ∀ H v, (mL ((List.range n).map fun _ => mItE asks.length n)).p H v → (mGtE asks).p H v := by
  intro H v h
  obtain ⟨gs, ⟨g1, g2⟩, g3⟩ := mL_E (p := fun os : List (Option Int) => os.length = asks.length ∧ ∀ o ∈ os, ∀ i, o = some i → 0 ≤ i ∧ i < n) (f := mOs) H v h
  refine ⟨gs, ⟨⟨ha, by omega, fun os hos => ?_⟩, by omega⟩, g3⟩
  obtain ⟨a, b⟩ := g2 os hos
  rw [g1]
  exact ⟨by rw [a], b⟩
theorem set_rng {α : Type} {m : α} {n : Nat} : ((List.range n).map fun _ => m).set 0 m = (List.range n).map fun _ => m := by
  rw [rng_rep]
  cases n with
  | zero => rfl
  | succ n => rfl
abbrev lgP (ad : Addr) (asks : Str) (n i : Nat) : List Jd.Slot := [.bor ad oSrc, .val (mStr asks), .val (mNat n), .own (oL ((List.range i).map fun _ => mItE asks.length n)), .any, .any, .any, .any]
abbrev H_law_gate (P : Program) (w : World) (K : PySem.W.Frag) (mg : Str → Option Value) (base : Heap) : Prop := Has P w K mg base 2 "_law_gate" ["_law_source_here", "_law_asks_here"] (Jd.spB (fun z : Str => askOk z = true) (fun _ => oSrc) (fun _ => oSrc) (fun z => [mStr z]) fun z => mGtE z)
theorem ok_law_gate (T : Tx K mg) (G : H_law_draw P w K mg base) : H_law_gate P w K mg base := by
  obtain ⟨fd, D, B⟩ := T.D_law_gate
  refine ⟨fd, fn_bor D sc_law_gate (fun _ => rfl) (by decide) ?_, B, T.g_law_gate, D.kp⟩
  rintro asks hz cdv A outer s H E e ad hr
  have hs := askOk_size hz
  refine ⟨.rt (mGtE asks) [.bor ad oSrc, .any, .any, .any, .any, .any, .any, .any], [.bor ad oSrc, .any, .any, .any, .any, .any, .any, .any], js_cons (jset 2 (je_add1R je_int (je_callSB (i := 4) 0 G hr (by omega) (ja1 je_int) ⟨by decide, by decide⟩)) sc_law_gate.nd) (js_exV (p := fun j : Int => 1 ≤ j ∧ j < 1 + 4) (f := mInt) 2 fun m hm => ?_), .rt, rfl⟩
  obtain ⟨n, rfl⟩ : ∃ n : Nat, m = (n : Int) := ⟨m.toNat, by omega⟩
  have h1 : 1 ≤ n := by omega
  have h4 : n ≤ 4 := by omega
  refine js_cons (jsetO 3 (jo_lst ja_nil (Nat.zero_le _)) sc_law_gate.nd)
    (js_cons (js_forN (fun i => lgP ad asks n i) (ji_range1 (jv 2) (by omega) (by omega) T.b_range) (by repeat (first | exact Le.nil | refine Le.same ?_ | refine Le.drop ?_)) (fun i hi => ⟨_, lgP ad asks n (i + 1), jgn 4 sc_law_gate.nd, ?_, Le.rfl⟩) PassesOwn.never)
    (js_cons (js_ifU (r := .nx (lgP ad asks n n)) (jtu_eq (je_weak (je_callSB (i := 3) 0 G hr (by omega) (ja1 je_int) ⟨by decide, by decide⟩) mAI_rng) je_int) ?_ ?_)
    (js_weakR (js_one (js_ret (je_weak (jfz 3) (gtE_in hz h1 h4)))) (by repeat (first | exact Le.nil | refine Le.same ?_ | refine Le.drop ?_)))))
  · show JSs _ _ _ _ (.nx [_, _, _, .own (oL ((List.range (i + 1)).map fun _ => mItE asks.length n)), _, _, _, _])
    rw [range_map_succ]
    refine js_cons (jsetO 5 (jo_lst ja_nil (Nat.zero_le _)) sc_law_gate.nd)
      (js_cons (js_forN (fun j => [.bor ad oSrc, .val (mStr asks), .val (mNat n), .own (oL ((List.range i).map fun _ => mItE asks.length n)), .val (mInt (i : Int)), .own (oL ((List.range j).map fun _ => mDoor n)), .any, .any]) (ji_str (jv 1)) (by repeat (first | exact Le.nil | refine Le.same ?_ | refine Le.drop ?_)) (fun j hj => ⟨_, [.bor ad oSrc, .val (mStr asks), .val (mNat n), .own (oL ((List.range i).map fun _ => mItE asks.length n)), .val (mInt (i : Int)), .own (oL ((List.range (j + 1)).map fun _ => mDoor n)), .any, .any], jgn 6 sc_law_gate.nd, ?_, Le.rfl⟩) PassesOwn.never)
      (js_weak (js_one (js_app 3 (je_weak (jfz 5) itE_in) (hl := by simp; omega))) (by repeat (first | exact Le.nil | refine Le.same ?_ | refine Le.drop ?_))))
    rw [range_map_succ]
    have hj' : j < asks.length := hj
    refine js_cons (jset 7 (je_callSB (i := (n : Int) + 1 + (if decide (1 < (n : Int)) then 1 else 0)) 0 G hr (by omega) (ja1 (je_add (je_add (jv 2) je_int) (je_intB (je_gtI (jv 2) je_int) T.b_int))) ⟨by split <;> omega, by split <;> omega⟩) sc_law_gate.nd)
      (js_exV (p := fun a : Int => 0 ≤ a ∧ a < (n : Int) + 1 + (if decide (1 < (n : Int)) then 1 else 0)) (f := mInt) 7 fun a ha => ?_)
    by_cases q : (n : Int) ≤ a
    · exact js_weak (js_one (js_if (jt_ge (jv 7) (jv 2)) (fun _ => js_one (js_app 5 (m := mDoor n) (je_weak je_none (mE_in (p := fun o : Option Int => ∀ i, o = some i → 0 ≤ i ∧ i < n) (f := mOpt) (z := none) (fun i hi => by cases hi))) (hl := by simp; omega))) fun y => absurd q (of_decide_eq_false y))) (by repeat (first | exact Le.nil | refine Le.same ?_ | refine Le.drop ?_))
    · exact js_weak (js_one (js_if (jt_ge (jv 7) (jv 2)) (fun y => absurd (of_decide_eq_true y) q) fun _ => js_one (js_app 5 (m := mDoor n) (je_weak (jv 7) (mE_in (p := fun o : Option Int => ∀ i, o = some i → 0 ≤ i ∧ i < n) (f := mOpt) (z := some a) (fun i hi => by cases hi; exact ⟨ha.1, by omega⟩))) (hl := by simp; omega)))) (by repeat (first | exact Le.nil | refine Le.same ?_ | refine Le.drop ?_))
  · refine js_weak (js_one (jsetI 3 0 (m := mItE asks.length n) (je_weak (je_fz (jo_lc1 (jx := 6) (fun _ => mRng n) (ji_str (jv 1)) softA (fun i hi k s H C cl fp => je_callSB (i := (n : Int)) 0 G hr (by omega) (ja1 (jv 2)) ⟨by omega, by omega⟩) (by show asks.length ≤ _; omega) sc_law_gate.nd)) itR_in) je_int rfl (hl := by simp; omega))) ?_
    rw [set_rng]
    exact (by repeat (first | exact Le.nil | refine Le.same ?_ | refine Le.drop ?_))
  · exact js_weak js_nil (by repeat (first | exact Le.nil | refine Le.same ?_ | refine Le.drop ?_))
end Afw

/-! text D27 -/
set_option Elab.async false
set_option linter.all false
set_option maxRecDepth 100000
set_option maxHeartbeats 4000000
namespace Afw
open PySem L2 PySem.Spec PyProof.Rows Jd
variable {P : Program} {w : World} {K : PySem.W.Frag} {mg : Str → Option Value} {base : Heap}
/-! ### _law_led_to: the same walk over node numbers -/
abbrev Ml := Nat × Nat × Int
abbrev mMl (m : Ml) : Mp := mT [mNat m.1, mNat m.2.1, mInt m.2.2]
abbrev mMls (mvs : List (List Ml)) : Mp := mL (mvs.map fun it => mL (it.map mMl))
abbrev chrZ (asks : Str) (k : Nat) : Str := ⟨#[asks.cps.toList.getD k 0]⟩
def stepG (asks ch : Str) (acc : Option (Nat × Int)) (m : Ml) : Option (Nat × Int) := if chrZ asks m.1 = ch then some (m.2.1, m.2.2) else acc
def stepZ (asks ch : Str) (it : List Ml) : Option (Nat × Int) := it.foldl (stepG asks ch) none
def goZ (asks ch : Str) (mvs : List (List Ml)) : Option (Nat × Int) → Option (Nat × Int)
  | none => none
  | some (n, t) => match stepZ asks ch (mvs.getD n []) with
    | none => none
    | some (n', g) => some (n', t + g)
def ledZ (asks : Str) (mvs : List (List Ml)) (n : Nat) (z : Str) : Nat → Option (Nat × Int)
  | 0 => some (n, 0)
  | i + 1 => goZ asks (chr1 z i) mvs (ledZ asks mvs n z i)
def mRz : Option (Nat × Int) → Mp
  | none => mNone
  | some (n, t) => mT [mNat n, mInt t]
theorem nonB_rz {o : Option (Nat × Int)} : NonB (mRz o) o.isNone := by
  cases o with
  | none => exact nonB_none
  | some p => exact nonB_T
/-- moves over so many nodes -/
structure MlOk (asks : Str) (mvs : List (List Ml)) : Prop where
  k : ∀ it ∈ mvs, ∀ m ∈ it, m.1 < asks.length ∧ m.2.1 < mvs.length
theorem stepZ_mem {asks ch : Str} {n : Nat} {g : Int} : ∀ {it : List Ml} {a : Option (Nat × Int)}, it.foldl (stepG asks ch) a = some (n, g) → a = some (n, g) ∨ ∃ m ∈ it, m.2.1 = n ∧ m.2.2 = g
  | [], a, h => .inl h
  | m :: r, a, h => by
    rcases stepZ_mem (it := r) h with z | ⟨m', h1, h2⟩
    · unfold stepG at z
      split at z
      · injection z with z
        injection z with z1 z2
        exact .inr ⟨m, List.mem_cons_self, z1, z2⟩
      · exact .inl z
    · exact .inr ⟨m', List.mem_cons_of_mem _ h1, h2⟩
theorem ledZ_lt {asks : Str} {mvs : List (List Ml)} (ok : MlOk asks mvs) {n : Nat} (hn : n < mvs.length) {z : Str} : ∀ i m t, ledZ asks mvs n z i = some (m, t) → m < mvs.length
  | 0, m, t, h => by
    injection h with h
    injection h with h1 h2
    omega
  | i + 1, m, t, h => by
    have h' : goZ asks (chr1 z i) mvs (ledZ asks mvs n z i) = some (m, t) := h
    cases q : ledZ asks mvs n z i with
    | none => rw [q] at h'; cases h'
    | some p =>
      obtain ⟨n0, t0⟩ := p
      rw [q] at h'
      have ih := ledZ_lt ok hn i n0 t0 q
      unfold goZ at h'
      cases q2 : stepZ asks (chr1 z i) (mvs.getD n0 []) with
      | none => simp only [q2] at h'; cases h'
      | some p2 =>
        obtain ⟨n1, g⟩ := p2
        simp only [q2] at h'
        injection h' with h'
        injection h' with h1 h2
        rcases stepZ_mem q2 with z | ⟨m', hm, e1, e2⟩
        · cases z
        · have := (ok.k _ (getD_mem ih) m' hm).2
          omega
theorem ledZ_none {asks : Str} {mvs : List (List Ml)} {n : Nat} {z : Str} {k : Nat} (h : ledZ asks mvs n z k = none) : ∀ j, k ≤ j → ledZ asks mvs n z j = none
  | 0, hj => by rw [Nat.le_zero.mp hj] at h; exact h
  | j + 1, hj => by
    by_cases e : k = j + 1
    · rw [← e]; exact h
    · show goZ asks (chr1 z j) mvs (ledZ asks mvs n z j) = none
      rw [ledZ_none h j (by omega)]
      rfl
def ledS (asks : Str) (mvs : List (List Ml)) (n : Nat) (z : Str) (i : Nat) : Nat × Int := (ledZ asks mvs n z i).getD (0, 0)
theorem ledS_eq {asks : Str} {mvs : List (List Ml)} {n : Nat} {z : Str} {i : Nat} (h : (ledZ asks mvs n z i).isSome = true) : ledZ asks mvs n z i = some (ledS asks mvs n z i) := by
  unfold ledS
  cases q : ledZ asks mvs n z i with
  | none => rw [q] at h; cases h
  | some p => rfl
abbrev ltP (asks : Str) (mvs : List (List Ml)) (z : Str) (st : Nat × Int) : List Jd.Slot := [.val (mStr asks), .val (mMls mvs), .val (mNat st.1), .val (mStr z), .val (mInt st.2), .any, .any, .any, .any, .any]
abbrev H_law_led_to (P : Program) (w : World) (K : PySem.W.Frag) (mg : Str → Option Value) (base : Heap) : Prop := Has P w K mg base 1 "_law_led_to" ["_law_asks_here", "_law_moves", "_law_node", "_law_row_here"] (spP (fun p : Str × List (List Ml) × Nat × Str => MlOk p.1 p.2.1 ∧ p.2.2.1 < p.2.1.length ∧ p.1.length ≤ 1000 ∧ p.2.1.length ≤ 1000 ∧ ∀ it ∈ p.2.1, it.length ≤ 1000) (fun p => [mStr p.1, mMls p.2.1, mNat p.2.2.1, mStr p.2.2.2])
  fun p => mRz (ledZ p.1 p.2.1 p.2.2.1 p.2.2.2 p.2.2.2.cps.size))
theorem ok_law_led_to (T : Tx K mg) : H_law_led_to P w K mg base := by
  obtain ⟨fd, D, B⟩ := T.D_law_led_to
  refine ⟨fd, fn_pure D sc_law_led_to (fun _ => rfl) (by decide) ?_, B, T.g_law_led_to, D.kp⟩
  rintro ⟨asks, mvs, n, z⟩ ⟨ok, hn, ha, hm, hit⟩ cdv A outer s H E e hr
  dsimp only at ok hn ha hm hit ⊢
  have turnJ : ∀ i, i < z.cps.size → (ledZ asks mvs n z i).isSome = true → JSs (cxOf CX0 P w K mg base N_law_led_to "_law_led_to" (defScope (top 99)) (He.ga K "_law_led_to") cdv A outer s H E).nox e (forBody ((defBody (top 99)).getD 1 (.Pass ⟨0, 0, 0, 0⟩))) ((ltP asks mvs z (ledS asks mvs n z i)).set 5 (.val (mStr (chr1 z i))))
      (match ledZ asks mvs n z (i + 1) with
        | none => .rt mNone (ltP asks mvs z (ledS asks mvs n z i))
        | some p => .nx (ltP asks mvs z p)) := fun i hi hsm => by
    have eb := ledS_eq hsm
    have hlt : (ledS asks mvs n z i).1 < mvs.length := ledZ_lt ok hn i (ledS asks mvs n z i).1 (ledS asks mvs n z i).2 eb
    have e1 : ledZ asks mvs n z (i + 1) = goZ asks (chr1 z i) mvs (some (ledS asks mvs n z i)) := by rw [← eb]; rfl
    rw [e1]
    generalize hbs : ledS asks mvs n z i = bs at *
    obtain ⟨s1, t1⟩ := bs
    have hlt : s1 < mvs.length := hlt
    show JSs _ _ _ _ (match (match stepZ asks (chr1 z i) (mvs.getD s1 []) with
      | none => none
      | some (s', g) => some (s', t1 + g)) with
        | none => _
        | some p => _)
    have hmem := getD_mem (d := []) hlt
    have ml := hit _ hmem
    have mk := fun m hm => (ok.k (mvs.getD s1 []) hmem m hm).1
    have loop : ∀ q, q < (mvs.getD s1 []).length → stepZ asks (chr1 z i) ((mvs.getD s1 []).take (q + 1)) = stepG asks (chr1 z i) (stepZ asks (chr1 z i) ((mvs.getD s1 []).take q)) ((mvs.getD s1 []).getD q (0, 0, 0)) := fun q hq => by
      rw [take_succ (d := ((0, 0, 0) : Ml)) hq]
      unfold stepZ
      rw [List.foldl_append]
      rfl
    refine js_cons (jset 6 je_none sc_law_led_to.nd) (js_cons (js_forN (fun q => [.val (mStr asks), .val (mMls mvs), .val (mNat s1), .val (mStr z), .val (mInt t1), .val (mStr (chr1 z i)), .val (mRz (stepZ asks (chr1 z i) ((mvs.getD s1 []).take q))), .any, .any, .any])
        (ji_map (f := mMl) (xs := mvs.getD s1 []) (0, 0, 0) (.inl rfl) (je_ixLF (f := fun it => mL (it.map mMl)) (xs := mvs) [] s1 (jpv 1) (jv 2) rfl hlt)
          (g := fun q => mT [mNat ((mvs.getD s1 []).getD q (0, 0, 0)).1, mNat ((mvs.getD s1 []).getD q (0, 0, 0)).2.1, mInt ((mvs.getD s1 []).getD q (0, 0, 0)).2.2]) (fun _ _ => rfl)) (by repeat (first | exact Le.nil | refine Le.same ?_ | refine Le.drop ?_)) (fun q hq => ?_) PassesOwn.never) ?_)
    · rw [loop q hq]
      have hk := mk _ (getD_mem (d := ((0, 0, 0) : Ml)) hq)
      generalize (mvs.getD s1 []).getD q (0, 0, 0) = m at *
      generalize stepZ asks (chr1 z i) ((mvs.getD s1 []).take q) = o at *
      refine ⟨_, [.val (mStr asks), .val (mMls mvs), .val (mNat s1), .val (mStr z), .val (mInt t1), .val (mStr (chr1 z i)), .val (mRz (stepG asks (chr1 z i) o m)), .any, .any, .any], jg_tup (jgs_cons (jgn 7 sc_law_led_to.nd) (jgs_cons (jgn 8 sc_law_led_to.nd) (jgs_cons (jgn 9 sc_law_led_to.nd) jgs_nil))), ?_, (by repeat (first | exact Le.nil | refine Le.same ?_ | refine Le.drop ?_))⟩
      by_cases y : chrZ asks m.1 = chr1 z i
      · have e2 : stepG asks (chr1 z i) o m = some (m.2.1, m.2.2) := if_pos y
        rw [e2]
        exact js_weak (js_one (js_if (jt_eqS (je_ixS (cc := asks.cps.toList.getD m.1 0) (jv 0) (jv 7) (by omega) (atI_nat (getD_some hk))) (jv 5)) (fun _ => js_one (jset 6 (je_tup (ja_cons (jv 8) (ja1 (jv 9))) (Nat.le_of_ble_eq_true rfl)) sc_law_led_to.nd)) fun n => absurd y (of_decide_eq_false n))) (by repeat (first | exact Le.nil | refine Le.same ?_ | refine Le.drop ?_))
      · have e2 : stepG asks (chr1 z i) o m = o := if_neg y
        rw [e2]
        exact js_weak (js_one (js_if (jt_eqS (je_ixS (cc := asks.cps.toList.getD m.1 0) (jv 0) (jv 7) (by omega) (atI_nat (getD_some hk))) (jv 5)) (fun n => absurd (of_decide_eq_true n) y) fun _ => js_nil)) (by repeat (first | exact Le.nil | refine Le.same ?_ | refine Le.drop ?_))
    · rw [List.take_length]
      cases hso : stepZ asks (chr1 z i) (mvs.getD s1 []) with
      | none => exact js_weakR (js_rt (js_if (t := true) (jt_isN (jv 6) nonB_none) (fun _ => js_one (js_ret je_none)) fun n => by cases n)) (by repeat (first | exact Le.nil | refine Le.same ?_ | refine Le.drop ?_))
      | some p =>
        obtain ⟨s2, g⟩ := p
        exact js_weak (js_cons (js_if (t := false) (jt_isN (jv 6) nonB_T) (fun n => by cases n) fun _ => js_nil) (js_cons (jset 2 (m := mNat s2) (je_ixT (ms := [mNat s2, mInt g]) (i := 0) (jv 6) je_int rfl) sc_law_led_to.nd) (js_one (jset 4 (je_add (jv 4) (je_ixT (ms := [mNat s2, mInt g]) (i := 1) (m := mInt g) (jv 6) je_int rfl)) sc_law_led_to.nd)))) (by repeat (first | exact Le.nil | refine Le.same ?_ | refine Le.drop ?_))
  rcases first_fail (fun i => (ledZ asks mvs n z (i + 1)).isSome) z.cps.size with h | ⟨k, k1, k2, k3⟩
  · have hsome : ∀ i, i ≤ z.cps.size → (ledZ asks mvs n z i).isSome = true := fun i hi => by
      cases i with
      | zero => rfl
      | succ i => exact h i (by omega)
    refine ⟨_, _, js_cons (jset 4 je_int sc_law_led_to.nd)
      (js_cons (js_forN (fun i => ltP asks mvs z (ledS asks mvs n z i)) (ji_str (jv 3)) (by repeat (first | exact Le.nil | refine Le.same ?_ | refine Le.drop ?_)) (fun i hi => ⟨_, ltP asks mvs z (ledS asks mvs n z (i + 1)), jgn 5 sc_law_led_to.nd, ?_, Le.rfl⟩) PassesOwn.never)
      (js_one (js_ret (je_tup (ja_cons (jv 2) (ja1 (jv 4))) (Nat.le_of_ble_eq_true rfl))))), .of ?_⟩
    · have t := turnJ i hi (hsome i (by omega))
      rw [ledS_eq (hsome (i + 1) (by omega))] at t
      exact t
    · rw [ledS_eq (hsome _ (Nat.le_refl _))]
      rfl
  · have hsome : ∀ i, i ≤ k → (ledZ asks mvs n z i).isSome = true := fun i hi => by
      cases i with
      | zero => rfl
      | succ i => exact k3 i (by omega)
    have hnone : ledZ asks mvs n z (k + 1) = none := by
      cases q : ledZ asks mvs n z (k + 1) with
      | none => rfl
      | some p => simp only [q] at k2; cases k2
    refine ⟨_, _, js_cons (jset 4 je_int sc_law_led_to.nd)
      (js_rt (js_for (k := k) (P := fun i => ltP asks mvs z (ledS asks mvs n z i)) (B := fun i => (ltP asks mvs z (ledS asks mvs n z i)).set 5 (.val (mStr (chr1 z i)))) (rs := fun i => match ledZ asks mvs n z (i + 1) with
        | none => .rt mNone (ltP asks mvs z (ledS asks mvs n z i))
        | some p => .nx (ltP asks mvs z p)) (r := .rt mNone (ltP asks mvs z (ledS asks mvs n z k))) (ji_str (jv 3)) (by repeat (first | exact Le.nil | refine Le.same ?_ | refine Le.drop ?_)) (by omega) (fun i _ _ => jgn 5 sc_law_led_to.nd) (fun i hi hik => turnJ i hi (hsome i hik)) (fun i hi => ?_) (.inr ⟨k1, ?_⟩) PassesOwn.never)), .of ?_⟩
    · simp only [ledS_eq (hsome (i + 1) (by omega))]
      exact .nx Le.rfl
    · simp only [hnone]
      exact .rt
    · rw [ledZ_none hnone _ (by omega)]
      rfl
end Afw

/-! text D28 -/
set_option Elab.async false
set_option linter.all false
set_option maxRecDepth 100000
set_option maxHeartbeats 4000000
namespace Afw
open PySem L2 PySem.Spec PyProof.Rows Jd
theorem itF_snoc {m : Mv} : ∀ (mv : List Mv) (ns : List (List Int)), itF ns (mv ++ [m]) = itF ns mv ++ [(m.1, atX (nodesF ns mv) m.2.1, m.2.2)]
  | [], ns => rfl
  | x :: r, ns => by
    show (x.1, atX ns x.2.1, x.2.2) :: itF (putX ns x.2.1) (r ++ [m]) = (x.1, atX ns x.2.1, x.2.2) :: (itF (putX ns x.2.1) r ++ _)
    rw [itF_snoc r]
    rfl
theorem itF_len : ∀ (mv : List Mv) (ns : List (List Int)), (itF ns mv).length = mv.length
  | [], _ => rfl
  | _ :: r, ns => congrArg (· + 1) (itF_len r _)
theorem nodesF_old : ∀ (mv : List Mv) (ns : List (List Int)) {i : Nat}, i < ns.length → (nodesF ns mv)[i]? = ns[i]?
  | [], _, _, _ => rfl
  | m :: r, ns, i, h => by
    show (nodesF (putX ns m.2.1) r)[i]? = _
    rw [nodesF_old r _ (Nat.lt_of_lt_of_le h putX_le), putX_old h]
/-- the j-th move leads to the node it names -/
theorem itF_at : ∀ (mv : List Mv) (ns : List (List Int)) {j : Nat} {m : Mv}, mv[j]? = some m → ∃ a, (itF ns mv)[j]? = some (m.1, a, m.2.2) ∧ (nodesF ns mv)[a]? = some m.2.1 ∧ a < (nodesF ns mv).length
  | [], _, _, _, h => by cases h
  | x :: r, ns, 0, m, h => by
    have h : x = m := Option.some.inj h
    subst h
    obtain ⟨h1, h2⟩ := atX_lt (xs := ns) (x := x.2.1)
    refine ⟨atX ns x.2.1, rfl, ?_, Nat.lt_of_lt_of_le h1 (nodesF_le r _)⟩
    show (nodesF (putX ns x.2.1) r)[_]? = _
    rw [nodesF_old r _ h1, h2]
  | x :: r, ns, j + 1, m, h => itF_at r (putX ns x.2.1) (j := j) h
theorem nodesF_nodup : ∀ (mv : List Mv) (ns : List (List Int)), ns.Nodup → (nodesF ns mv).Nodup
  | [], _, h => h
  | m :: r, ns, h => nodesF_nodup r _ (putX_nodup h)
theorem spB_nodup (c : Cl) : ∀ i, (Afw.spB c i).1.Nodup
  | 0 => by show [_].Nodup; simp
  | i + 1 => nodesF_nodup _ _ (spB_nodup c i)
theorem spB_old (c : Cl) {i j : Nat} (h : i ≤ j) {a : Nat} (ha : a < (Afw.spB c i).1.length) : (Afw.spB c j).1[a]? = (Afw.spB c i).1[a]? := by
  induction j with
  | zero => rw [Nat.le_zero.mp h]
  | succ j ih =>
    by_cases z : i = j + 1
    · rw [z]
    · have hj : i ≤ j := by omega
      show (nodesF (Afw.spB c j).1 _)[a]? = _
      rw [nodesF_old _ _ (Nat.lt_of_lt_of_le ha (spB_mono hj)), ih hj]
end Afw

/-! text D29 -/
set_option Elab.async false
set_option linter.all false
set_option maxRecDepth 100000
set_option maxHeartbeats 4000000
namespace Afw
open PySem L2 PySem.Spec PyProof.Rows Jd
variable {P : Program} {w : World} {K : PySem.W.Frag} {mg : Str → Option Value} {base : Heap}
abbrev mLMs (c : Cl) : Mp := mL (c.ms.map fun m => mLMach m.1 m.2)
abbrev mKA (p : Nat × Nat × Int) : Mp := mT [mNat p.1, mNat p.2.1]
abbrev mKAs (mvs : List (List Ml)) : Mp := mL (mvs.map fun it => mL (it.map mKA))
theorem spB_run {c : Cl} : ∀ i, (∀ j, j ≤ i → (Afw.spB c j).1.length ≠ j) → i < (Afw.spB c i).1.length
  | 0, _ => Nat.lt_succ_self 0
  | i + 1, h => by
    have h1 := spB_run i fun j hj => h j (by omega)
    have h2 := spB_mono (c := c) (i := i) (j := i + 1) (Nat.le_succ i)
    have h3 := h (i + 1) (Nat.le_refl _)
    omega
theorem nodesF_up : ∀ (mv : List Mv) (ns : List (List Int)), (nodesF ns mv).length ≤ ns.length + mv.length
  | [], _ => Nat.le_refl _
  | m :: r, ns => by
    have h1 := nodesF_up r (putX ns m.2.1)
    have h2 := putX_le1 (xs := ns) (x := m.2.1)
    show (nodesF (putX ns m.2.1) r).length ≤ _
    rw [List.length_cons]
    omega
theorem spB_up {c : Cl} (hd : c.asks.length ≤ 4) : ∀ i, (Afw.spB c i).1.length ≤ 1 + 4 * i
  | 0 => Nat.le_refl _
  | i + 1 => by
    have h1 := spB_up hd i
    have h2 := nodesF_up (movesT c ((Afw.spB c i).1.getD i []) c.asks.length) (Afw.spB c i).1
    have h3 := movesT_len c ((Afw.spB c i).1.getD i []) c.asks.length
    show (nodesF (Afw.spB c i).1 (movesT c ((Afw.spB c i).1.getD i []) c.asks.length)).length ≤ _
    omega
theorem spB_mvs (c : Cl) : ∀ i, (Afw.spB c i).2.length = i
  | 0 => rfl
  | i + 1 => by
    show ((Afw.spB c i).2 ++ [_]).length = _
    rw [List.length_append, spB_mvs c i]
    rfl
abbrev mWebL (c : Cl) (T : Nat) : Mp := mL [mL ((Afw.spB c T).1.map mNs), mL (rowsM (Afw.spB c T).1.length), mKAs (Afw.spB c T).2]
inductive SpotsR (c : Cl) (mo : Nat) : Mp → Prop where
  | some {T : Nat} (h : T ≤ mo) (e : (Afw.spB c T).1.length = T) (b : ∀ i, i < T → (Afw.spB c i).1.length ≠ i) : SpotsR c mo (mWebL c T)
  | none (h : ∀ i, i ≤ mo → (Afw.spB c i).1.length ≠ i) : SpotsR c mo mNone
abbrev anys16 : List Jd.Slot := [.any, .any, .any, .any, .any, .any, .any, .any, .any, .any, .any, .any, .any, .any, .any, .any]
abbrev H_law_spots (P : Program) (w : World) (K : PySem.W.Frag) (mg : Str → Option Value) (base : Heap) : Prop := Has P w K mg base 1 "_law_spots" ["_law_asks_here", "_law_machines", "_law_doors", "_law_most"] (spP (fun p : Cl × Nat × Mp => ClOk p.1 ∧ p.2.1 ≤ 900 ∧ SpotsR p.1 p.2.1 p.2.2) (fun p => [mStr p.1.asks, mLMs p.1, mGs p.1.gs, mNat p.2.1]) fun p => p.2.2)
abbrev lpP (w : World) (c : Cl) (mo i : Nat) : List Jd.Slot := [.val (mStr c.asks), .val (mLMs c), .val (mGs c.gs), .val (mNat mo), .own (oL ((Afw.spB c i).1.map mNs)), .own (oL (rowsM (Afw.spB c i).1.length)), .own (oN w (kvsN numKey (Afw.spB c i).1)), .own (oL ((Afw.spB c i).2.map fun it => mL (it.map mKA))), .any, .any, .any, .any, .any, .any, .any, .any]
abbrev lpQ (w : World) (c : Cl) (mo : Nat) (sp : List Int) (ns : List (List Int)) (mvs : List (List Ml)) (i k : Nat) : List Jd.Slot := [.val (mStr c.asks), .val (mLMs c), .val (mGs c.gs), .val (mNat mo), .own (oL ((nodesF ns (movesT c sp k)).map mNs)), .own (oL (rowsM (nodesF ns (movesT c sp k)).length)), .own (oN w (kvsN numKey (nodesF ns (movesT c sp k)))), .own (oL (mvs.map fun it => mL (it.map mKA))), .val (mNat i), .val (mNs sp), .own (oL ((itF ns (movesT c sp k)).map mKA)), .any, .any, .any, .any, .any]
theorem ok_law_spots (T : Tx K mg) : H_law_spots P w K mg base := by
  obtain ⟨fd, D, B⟩ := T.D_law_spots
  refine ⟨fd, fn_pure D sc_law_spots (fun _ => rfl) (by decide) ?_, B, T.g_law_spots, D.kp⟩
  rintro ⟨c, mo, res⟩ ⟨hc, hmo, hR⟩ cdv A outer s H E e hr
  dsimp only at hc hmo hR ⊢
  have hs := askOk_size hc.a
  have hm := hc.m
  have hup := spB_up (c := c) hs.2
  have hu : (cxOf CX0 P w K mg base N_law_spots "_law_spots" (defScope (top 97)) (He.ga K "_law_spots") cdv A outer s H E).nox.A.units + 9 < cLine := room_u hr
  have turn : ∀ i, i ≤ mo → (∀ j, j ≤ i → (Afw.spB c j).1.length ≠ j) → JSs (cxOf CX0 P w K mg base N_law_spots "_law_spots" (defScope (top 97)) (He.ga K "_law_spots") cdv A outer s H E).nox e (forBody ((defBody (top 97)).getD 5 (.Pass ⟨0, 0, 0, 0⟩))) ((lpP w c mo i).set 8 (.val (mInt (i : Int)))) (.nx (lpP w c mo (i + 1))) := fun i him hne => by
    have hi2 := spB_run i hne
    have hall := spB_ok hc (T := i) (fun j hj => spB_run j fun q hq => hne q (by omega)) i (Nat.le_refl _)
    have hsp := hall _ (getD_mem (d := []) hi2)
    have hL := hup i
    refine js_cons (js_if (jt_eq (jv 8) (je_lenL (jpo 4) T.b_len)) (fun y => ?_) fun _ => js_nil)
      (js_cons (jset 9 (je_ixLF (f := mNs) (xs := (Afw.spB c i).1) [] i (jpo 4) (jv 8) rfl hi2) sc_law_spots.nd)
      (js_cons (jsetO 10 (jo_lst ja_nil (Nat.zero_le _)) sc_law_spots.nd)
      (js_cons (js_forN (fun k => lpQ w c mo ((Afw.spB c i).1.getD i []) (Afw.spB c i).1 (Afw.spB c i).2 i k) (ji_range1 (je_lenS (jv 0) (by omega) T.b_len) (by omega) (by omega) T.b_range) (by repeat (first | exact Le.nil | refine Le.same ?_ | refine Le.drop ?_)) (fun k hk' => ?_) PassesOwn.never)
      (js_weak (js_one (js_app 7 (jfz 10) (hl := by rw [List.length_map, spB_mvs]; omega))) ?_))))
    · have y := of_decide_eq_true y
      rw [List.length_map] at y
      exact absurd (by omega) (hne i (Nat.le_refl _))
    · rw [Int.toNat_natCast] at hk'
      have hgl := hc.g.i _ (getD_mem (d := []) hsp.g.2)
      have hl := hsp.l
      have nup := nodesF_up (movesT c ((Afw.spB c i).1.getD i []) k) (Afw.spB c i).1
      have nle := nodesF_le (movesT c ((Afw.spB c i).1.getD i []) k) (Afw.spB c i).1
      have mvl := movesT_len c ((Afw.spB c i).1.getD i []) k
      have ifl := itF_len (movesT c ((Afw.spB c i).1.getD i []) k) (Afw.spB c i).1
      show ∃ B s, JG _ _ _ _ _ _ ∧ JSs _ _ _ _ _ ∧ Le s [_, _, _, _, .own (oL ((nodesF (Afw.spB c i).1 (movesT c ((Afw.spB c i).1.getD i []) k ++ mvAt c ((Afw.spB c i).1.getD i []) k)).map mNs)), .own (oL (rowsM (nodesF (Afw.spB c i).1 (movesT c ((Afw.spB c i).1.getD i []) k ++ mvAt c ((Afw.spB c i).1.getD i []) k)).length)), .own (oN w (kvsN numKey (nodesF (Afw.spB c i).1 (movesT c ((Afw.spB c i).1.getD i []) k ++ mvAt c ((Afw.spB c i).1.getD i []) k)))), _, _, _, .own (oL ((itF (Afw.spB c i).1 (movesT c ((Afw.spB c i).1.getD i []) k ++ mvAt c ((Afw.spB c i).1.getD i []) k)).map mKA)), _, _, _, _, _]
      generalize hsp0 : (Afw.spB c i).1.getD i [] = sp at *
      have hlast : L2.atI (sp.map mInt) (-1) = some (mInt (sp.getD c.ms.length 0)) := by
        show (ixN (sp.map mInt).length (-1)).bind (fun j => (sp.map mInt)[j]?) = _
        have e2 : ixN (sp.map mInt).length (-1) = some c.ms.length := by
          rw [List.length_map, hl]
          unfold ixN
          simp
          omega
        rw [e2]
        show (sp.map mInt)[c.ms.length]? = _
        rw [List.getElem?_map, getD_some (d := 0) (by omega)]
        rfl
      refine ⟨_, [.val (mStr c.asks), .val (mLMs c), .val (mGs c.gs), .val (mNat mo), .own (oL ((nodesF (Afw.spB c i).1 (movesT c sp k ++ mvAt c sp k)).map mNs)), .own (oL (rowsM (nodesF (Afw.spB c i).1 (movesT c sp k ++ mvAt c sp k)).length)), .own (oN w (kvsN numKey (nodesF (Afw.spB c i).1 (movesT c sp k ++ mvAt c sp k)))), .own (oL ((Afw.spB c i).2.map fun it => mL (it.map mKA))), .val (mNat i), .val (mNs sp), .own (oL ((itF (Afw.spB c i).1 (movesT c sp k ++ mvAt c sp k)).map mKA)), .any, .any, .any, .any, .any], jgn 11 sc_law_spots.nd,
        js_cons (jset 12 (m := mOpt (doorAt c sp k)) (je_ixLF (f := mOpt) (xs := c.gs.getD (sp.getD c.ms.length 0).toNat []) none k (jp_of (je_ixLF (f := mOs) (xs := c.gs) [] (sp.getD c.ms.length 0).toNat (jpv 2) (je_ixT (i := -1) (m := mInt (sp.getD c.ms.length 0)) (jv 9) (je_neg je_int) hlast) (by have := hsp.g.1; omega) hsp.g.2)) (jv 11) rfl (by have := hgl.1; omega)) sc_law_spots.nd) ?_, (by repeat (first | exact Le.nil | refine Le.same ?_ | refine Le.drop ?_))⟩
      unfold mvAt
      cases doorAt c sp k with
      | none =>
        rw [List.append_nil]
        exact js_weak (js_one (js_if (t := !true) (jt_notN (jv 12) nonB_none) (fun z => by cases z) fun _ => js_nil)) (by repeat (first | exact Le.nil | refine Le.same ?_ | refine Le.drop ?_))
      | some pl =>
        show JSs _ _ _ _ (.nx [_, _, _, _, .own (oL ((nodesF (Afw.spB c i).1 (movesT c sp k ++ [(k, kindsAt c sp k ++ [pl], gainT c sp k c.ms.length)])).map mNs)), .own (oL (rowsM (nodesF (Afw.spB c i).1 (movesT c sp k ++ [(k, kindsAt c sp k ++ [pl], gainT c sp k c.ms.length)])).length)), .own (oN w (kvsN numKey (nodesF (Afw.spB c i).1 (movesT c sp k ++ [(k, kindsAt c sp k ++ [pl], gainT c sp k c.ms.length)])))), _, _, _, .own (oL ((itF (Afw.spB c i).1 (movesT c sp k ++ [(k, kindsAt c sp k ++ [pl], gainT c sp k c.ms.length)])).map mKA)), _, _, _, _, _])
        rw [nodesF_snoc, itF_snoc, List.map_append]
        have kl : (kindsAt c sp k ++ [pl]) = kindsAt c sp k ++ [pl] := rfl
        show JSs _ _ _ _ (.nx [_, _, _, _, .own (oL ((putX (nodesF (Afw.spB c i).1 (movesT c sp k)) (kindsAt c sp k ++ [pl])).map mNs)), .own (oL (rowsM (putX (nodesF (Afw.spB c i).1 (movesT c sp k)) (kindsAt c sp k ++ [pl])).length)), .own (oN w (kvsN numKey (putX (nodesF (Afw.spB c i).1 (movesT c sp k)) (kindsAt c sp k ++ [pl])))), _, _, _, .own (oL ((itF (Afw.spB c i).1 (movesT c sp k)).map mKA ++ [mT [mNat k, mNat (atX (nodesF (Afw.spB c i).1 (movesT c sp k)) (kindsAt c sp k ++ [pl]))]])), _, _, _, _, _])
        generalize hN : kindsAt c sp k ++ [pl] = nd at *
        generalize hLL : nodesF (Afw.spB c i).1 (movesT c sp k) = L at *
        have iL : i < L.length := by omega
        have gk : getN (kvsN numKey L) (numKey nd) = (posOf L nd).map fun i : Nat => (i : Int) := getN_kvs fun _ _ => numKey_inj
        have gp : getN (kvsN numKey (putX L nd)) (numKey nd) = some ((atX L nd : Nat) : Int) := by
          rw [getN_kvs fun _ _ => numKey_inj, posOf_put]
          rfl
        refine js_weak (js_one (js_if (r := .nx [.val (mStr c.asks), .val (mLMs c), .val (mGs c.gs), .val (mNat mo), .own (oL ((putX L nd).map mNs)), .own (oL (rowsM (putX L nd).length)), .own (oN w (kvsN numKey (putX L nd))), .own (oL ((Afw.spB c i).2.map fun it => mL (it.map mKA))), .val (mNat i), .val (mNs sp), .own (oL ((itF (Afw.spB c i).1 (movesT c sp k)).map mKA ++ [mT [mNat k, mNat (atX L nd)]])), .val (mInt (k : Int)), .val (mInt pl), .val (mNs nd), .any, .any]) (t := !false) (jt_notN (jv 12) nonB_int) (fun _ => js_cons (jset 13 (m := mNs nd) (je_of (je_tupOf (jp_of (je_fz (jo_cat (je_fzl (jo_lc2 14 15 (u := fun j => mLMach (c.ms.getD j (0, [])).1 (c.ms.getD j (0, [])).2) (v := fun j => mInt (sp.getD j 0)) (fun j => mInt (stepAt c sp k j).1) (ji_congr (N' := c.ms.length) (ys' := fun j => mT [mLMach (c.ms.getD j (0, [])).1 (c.ms.getD j (0, [])).2, mInt (sp.getD j 0)]) (pi_zip2J (rJ_list (jv 1)) (rJ_tup (jv 9)) T.b_zip) ?_ ?_) softA softA (fun j hj kk s H C cl fp => ?_) (by omega) sc_law_spots.nd)) (je_fzl (jo_lst (ja1 (jv 12)) (Nat.le_of_ble_eq_true rfl))) ?_))) T.b_tuple) ?_) sc_law_spots.nd) ?_) fun z => by cases z)) ?_
        · intro j hj
          rw [List.length_map, List.length_map] at hj
          rw [getD_map (d := (0, [])) (by omega), getD_map (d := 0) (by omega)]
        · rw [List.length_map, List.length_map]; omega
        · have sj := hsp.k j hj
          have hst := hc.st _ (getD_mem (d := (0, [])) hj)
          have hil : ((c.ms.getD j (0, [])).2.getD (sp.getD j 0).toNat []).length = c.asks.length := hst.l _ (getD_mem sj.2)
          exact je_ixT (ms := [mInt (stepAt c sp k j).1, mInt (stepAt c sp k j).2]) (i := 0) (m := mInt (stepAt c sp k j).1) (je_ixLF (f := mPair) (xs := (c.ms.getD j (0, [])).2.getD (sp.getD j 0).toNat []) (0, 0) k (jp_of (je_ixLF (f := mItL) (xs := (c.ms.getD j (0, [])).2) [] (sp.getD j 0).toNat (jp_of (je_ix (jpv 14) (i := 1) (m := mLL (c.ms.getD j (0, [])).2) je_int rfl)) (jv 15) (by omega) sj.2)) (jv 11) rfl (by omega)) je_int rfl
        · rw [List.length_map, List.length_range, List.length_singleton]; omega
        · rw [← hN]
          show mT _ = mT (List.map mInt (List.map _ _ ++ [pl]))
          rw [List.map_append, List.map_map]
          rfl
        · refine js_cons (js_if (r := .nx [.val (mStr c.asks), .val (mLMs c), .val (mGs c.gs), .val (mNat mo), .own (oL ((putX L nd).map mNs)), .own (oL (rowsM (putX L nd).length)), .own (oN w (kvsN numKey (putX L nd))), .own (oL ((Afw.spB c i).2.map fun it => mL (it.map mKA))), .val (mNat i), .val (mNs sp), .own (oL ((itF (Afw.spB c i).1 (movesT c sp k)).map mKA)), .val (mInt (k : Int)), .val (mInt pl), .val (mNs nd), .any, .any])
              (jt_nnotin (i := 6) (kvs := kvsN numKey L) (k := numKey nd) hu (jv 13) keyOf_nums ⟨_, rfl⟩ (by rw [← hLL]; rfl) rfl) (fun z => ?_) (fun z => ?_))
            (js_one (js_app 10 (je_tup (ja_cons (jv 11) (ja1 (je_nget (i := 6) (r := ((atX L nd : Nat) : Int)) hu (jv 13) keyOf_nums ⟨_, rfl⟩ rfl ⟨_, rfl⟩ gp rfl))) (Nat.le_of_ble_eq_true rfl)) (hl := by rw [List.length_map, ifl]; omega)))
          · have hno : nd ∉ L := by
              rw [gk, Option.isSome_map] at z
              refine posOf_none.mp ?_
              cases q : posOf L nd with
              | none => rfl
              | some j => rw [q] at z; cases z
            have gk' : getN (kvsN numKey L) (numKey nd) = none := by rw [gk, posOf_none.mpr hno]; rfl
            rw [(atX_new hno).1]
            rw [List.map_append, kvsN_snoc, List.length_append, List.length_singleton, rowsM_succ]
            subst hLL
            exact js_cons (js_nput (i := 6) (kvs := kvsN numKey (nodesF (Afw.spB c i).1 (movesT c sp k))) (r := ((nodesF (Afw.spB c i).1 (movesT c sp k)).length : Int)) hu (je_of (je_lenL (jpo 4) T.b_len) (by rw [List.length_map])) (jv 13) keyOf_nums ⟨_, rfl⟩ rfl ⟨_, rfl⟩ gk' (by rw [kvsN_length]; omega) rfl)
              (js_cons (js_app 4 (jv 13) (hl := by rw [List.length_map]; omega))
              (js_one (js_app 5 (je_weak (je_addSh (je_ixLF (f := mSh) (xs := List.range (nodesF (Afw.spB c i).1 (movesT c sp k)).length) 0 i (jpo 5) (jv 8) rfl (by simpa using iL) (m := mSh i) (by rw [List.getD_eq_getElem?_getD, List.getElem?_range iL]; rfl)) (je_weak (je_ixS (cc := c.asks.cps.toList.getD k 0) (jv 0) (jv 11) (by omega) (atI_nat (getD_some hk'))) (mSh_of (n := 1) (Nat.le_refl 1))) (by omega)) (mSh_le iL)) (hl := by rw [List.length_map, List.length_range]; omega))))
          · have hin : nd ∈ L := by
              rw [gk, Option.isSome_map] at z
              cases q : posOf L nd with
              | none => rw [q] at z; cases z
              | some j => exact List.mem_of_getElem? (posOf_some q).2
            rw [(atX_old hin).1]
            subst hLL
            exact js_weak js_nil (by repeat (first | exact Le.nil | refine Le.same ?_ | refine Le.drop ?_))
        · exact (by repeat (first | exact Le.nil | refine Le.same ?_ | refine Le.drop ?_))
    · show Le _ [_, _, _, _, .own (oL ((nodesF (Afw.spB c i).1 (movesT c ((Afw.spB c i).1.getD i []) c.asks.length)).map mNs)), .own (oL (rowsM (nodesF (Afw.spB c i).1 (movesT c ((Afw.spB c i).1.getD i []) c.asks.length)).length)), .own (oN w (kvsN numKey (nodesF (Afw.spB c i).1 (movesT c ((Afw.spB c i).1.getD i []) c.asks.length)))), .own (oL (((Afw.spB c i).2 ++ [itF (Afw.spB c i).1 (movesT c ((Afw.spB c i).1.getD i []) c.asks.length)]).map fun it => mL (it.map mKA))), _, _, _, _, _, _, _, _]
      rw [List.map_append, Int.toNat_natCast]
      exact (by repeat (first | exact Le.nil | refine Le.same ?_ | refine Le.drop ?_))
  have e0 : mT (List.replicate ((c.ms.length : Int) + 1).toNat (mInt 0)) = mNs (sp0 c) := by
    show _ = mT (List.map mInt (sp0 c))
    unfold sp0
    rw [List.map_replicate]
    rfl
  cases hR with
  | none h =>
    refine ⟨_, anys16, js_cons (jsetO 4 (jo_lst (ja1 (je_of (je_tupOf (jp_of (je_fz (jo_rep (je_fzl (jo_lst (ja1 je_int) (Nat.le_of_ble_eq_true rfl))) (je_add (je_of (je_lenL (jpv 1) T.b_len) (by rw [List.length_map])) je_int) (by omega) (by omega)))) T.b_tuple) e0)) (Nat.le_of_ble_eq_true rfl)) sc_law_spots.nd)
      (js_cons (jsetO 5 (jo_lst (ja1 (je_weak je_str (mSh_of (n := 0) (Nat.le_refl 0)))) (Nat.le_of_ble_eq_true rfl)) sc_law_spots.nd)
      (js_cons (jsetO 6 jo_dnewN sc_law_spots.nd)
      (js_cons (js_nput (i := 6) (kvs := []) (r := 0) hu je_int (je_ix (jpo 4) (i := 0) (m := mNs (sp0 c)) je_int rfl) keyOf_nums ⟨_, rfl⟩ rfl ⟨_, rfl⟩ rfl (Nat.le_of_ble_eq_true rfl) rfl)
      (js_cons (jsetO 7 (jo_lst ja_nil (Nat.zero_le _)) sc_law_spots.nd)
      (js_cons (js_forN (fun i => lpP w c mo i) (ji_range1 (je_add (jv 3) je_int) (by omega) (by omega) T.b_range) (by repeat (first | exact Le.nil | refine Le.same ?_ | refine Le.drop ?_)) (fun i hi => ⟨_, lpP w c mo (i + 1), jgn 8 sc_law_spots.nd, turn i (by omega) (fun j hj => h j (by omega)), Le.rfl⟩) PassesOwn.never)
      (js_weakR (js_one (js_ret je_none)) (by repeat (first | exact Le.nil | refine Le.same ?_ | refine Le.drop ?_)))))))), .of (by rfl)⟩
  | some hT e b =>
    rename_i TT
    refine ⟨_, anys16, js_cons (jsetO 4 (jo_lst (ja1 (je_of (je_tupOf (jp_of (je_fz (jo_rep (je_fzl (jo_lst (ja1 je_int) (Nat.le_of_ble_eq_true rfl))) (je_add (je_of (je_lenL (jpv 1) T.b_len) (by rw [List.length_map])) je_int) (by omega) (by omega)))) T.b_tuple) e0)) (Nat.le_of_ble_eq_true rfl)) sc_law_spots.nd)
      (js_cons (jsetO 5 (jo_lst (ja1 (je_weak je_str (mSh_of (n := 0) (Nat.le_refl 0)))) (Nat.le_of_ble_eq_true rfl)) sc_law_spots.nd)
      (js_cons (jsetO 6 jo_dnewN sc_law_spots.nd)
      (js_cons (js_nput (i := 6) (kvs := []) (r := 0) hu je_int (je_ix (jpo 4) (i := 0) (m := mNs (sp0 c)) je_int rfl) keyOf_nums ⟨_, rfl⟩ rfl ⟨_, rfl⟩ rfl (Nat.le_of_ble_eq_true rfl) rfl)
      (js_cons (jsetO 7 (jo_lst ja_nil (Nat.zero_le _)) sc_law_spots.nd)
      (js_rt (js_for (k := TT) (P := fun i => lpP w c mo i) (B := fun i => (lpP w c mo i).set 8 (.val (mInt (i : Int)))) (rs := fun i => if i = TT then .rt (mWebL c TT) anys16 else .nx (lpP w c mo (i + 1))) (r := .rt (mWebL c TT) anys16)
        (ji_range1 (je_add (jv 3) je_int) (by omega) (by omega) T.b_range) (by repeat (first | exact Le.nil | refine Le.same ?_ | refine Le.drop ?_)) (by omega) (fun i _ _ => jgn 8 sc_law_spots.nd) (fun i hi hik => ?_) (fun i hi => ?_) (.inr ⟨by omega, ?_⟩) PassesOwn.never)))))), .of (by rfl)⟩
    · by_cases z : i = TT
      · rw [if_pos z]
        subst z
        exact js_weakR (js_rt (js_if (jt_eq (jv 8) (je_lenL (jpo 4) T.b_len)) (fun _ => js_one (js_ret (je_fz (jo_lst (ja_cons (jfz 4) (ja_cons (jfz 5) (ja1 (jfz 7)))) (Nat.le_of_ble_eq_true rfl))))) fun y => by
          have y := of_decide_eq_false y
          rw [List.length_map, e] at y
          exact absurd rfl y)) (by repeat (first | exact Le.nil | refine Le.same ?_ | refine Le.drop ?_))
      · rw [if_neg z]
        exact turn i (by omega) fun j hj => b j (by omega)
    · rw [if_neg (by omega)]
      exact .nx Le.rfl
    · show Leaves (if TT = TT then _ else _) _
      rw [if_pos rfl]
      exact .rt
end Afw

/-! text D30 -/
set_option Elab.async false
set_option linter.all false
set_option maxRecDepth 100000
set_option maxHeartbeats 4000000
namespace Afw
open PySem L2 PySem.Spec PyProof.Rows Jd
variable {P : Program} {w : World} {K : PySem.W.Frag} {mg : Str → Option Value} {base : Heap}
/-! ### _law_gains -/
theorem spB_mv (c : Cl) : ∀ {T i : Nat}, i < T → (Afw.spB c T).2[i]? = some (itF (Afw.spB c i).1 (movesT c ((Afw.spB c i).1.getD i []) c.asks.length))
  | T + 1, i, h => by
    show ((Afw.spB c T).2 ++ [_])[i]? = _
    by_cases z : i < T
    · rw [List.getElem?_append_left (by rw [spB_mvs]; exact z)]
      exact spB_mv c z
    · have e : i = T := by omega
      subst e
      rw [List.getElem?_append_right (by rw [spB_mvs]; exact Nat.le_refl _), spB_mvs, Nat.sub_self]
      rfl
theorem getD_of {α : Type} {xs : List α} {i : Nat} {d x : α} (h : xs[i]? = some x) : xs.getD i d = x := by rw [List.getD_eq_getElem?_getD, h]; rfl
theorem spB_node {c : Cl} {T i : Nat} (h : i ≤ T) (hi : i < (Afw.spB c i).1.length) : (Afw.spB c T).1.getD i [] = (Afw.spB c i).1.getD i [] := by
  rw [List.getD_eq_getElem?_getD, spB_old c h hi, ← List.getD_eq_getElem?_getD]
theorem itF_mem : ∀ (mv : List Mv) (ns : List (List Int)) {x : Nat × Nat × Int}, x ∈ itF ns mv → ∃ m ∈ mv, ∃ a, x = (m.1, a, m.2.2)
  | [], _, _, h => by cases h
  | m :: r, ns, x, h => by
    rcases List.mem_cons.mp h with z | z
    · exact ⟨m, List.mem_cons_self, _, z⟩
    · obtain ⟨m', h1, a, h2⟩ := itF_mem r _ z
      exact ⟨m', List.mem_cons_of_mem _ h1, a, h2⟩
structure WebEnd (c : Cl) (T : Nat) : Prop where
  n : T ≤ 900
  e : (Afw.spB c T).1.length = T
  b : ∀ i, i < T → (Afw.spB c i).1.length ≠ i
theorem WebEnd.run {c : Cl} {T : Nat} (h : WebEnd c T) {i : Nat} (hi : i < T) : i < (Afw.spB c i).1.length := spB_run i fun j hj => h.b j (by omega)
/-- the i-th row of moves -/
theorem web_row {c : Cl} {T : Nat} (h : WebEnd c T) {i : Nat} (hi : i < T) {x : Nat × Nat × Int} (hx : x ∈ (Afw.spB c T).2.getD i []) : x.1 < c.asks.length ∧ x.2.2 = gainT c ((Afw.spB c T).1.getD i []) x.1 c.ms.length := by
  rw [getD_of (spB_mv c hi)] at hx
  obtain ⟨m, hm, a, rfl⟩ := itF_mem _ _ hx
  obtain ⟨h1, pl, _, h3⟩ := mv_mem hm
  refine ⟨h1, ?_⟩
  rw [spB_node (Nat.le_of_lt hi) (h.run hi)]
  show m.2.2 = gainT c _ m.1 _
  rw [h3]
theorem web_len {c : Cl} {T : Nat} {i : Nat} (hi : i < T) : ((Afw.spB c T).2.getD i []).length ≤ c.asks.length := by
  rw [getD_of (spB_mv c hi), itF_len]
  exact movesT_len _ _ _
abbrev lgnP (c : Cl) (T i : Nat) : List Jd.Slot := [.val (mWebL c T), .val (mLMs c), .val (mLs c.fs), .val (mLs c.cs), .own (oL (((Afw.spB c T).2.take i).map fun it => mL (it.map mMl))), .any, .any, .any, .any, .any, .any, .any]
abbrev H_law_gains (P : Program) (w : World) (K : PySem.W.Frag) (mg : Str → Option Value) (base : Heap) : Prop := Has P w K mg base 1 "_law_gains" ["_law_web", "_law_machines", "_law_factors", "_law_tallies"] (spP (fun p : Cl × Nat => ClOk p.1 ∧ WebEnd p.1 p.2) (fun p => [mWebL p.1 p.2, mLMs p.1, mLs p.1.fs, mLs p.1.cs]) fun p => mMls (Afw.spB p.1 p.2).2)
theorem ok_law_gains (T : Tx K mg) : H_law_gains P w K mg base := by
  obtain ⟨fd, D, B⟩ := T.D_law_gains
  refine ⟨fd, fn_pure D sc_law_gains (fun _ => rfl) (by decide) ?_, B, T.g_law_gains, D.kp⟩
  rintro ⟨c, N⟩ ⟨hc, hE⟩ cdv A outer s H E e hr
  dsimp only at hc hE ⊢
  have hs := askOk_size hc.a
  have hm := hc.m
  have hf := hc.f
  have hcc := hc.cl
  have hn := hE.n
  have hml := spB_mvs c N
  have hall := spB_ok hc (T := N) (fun j hj => hE.run hj) N (Nat.le_refl _)
  refine ⟨_, _, js_cons (jsetO 4 (jo_lst ja_nil (Nat.zero_le _)) sc_law_gains.nd)
    (js_cons (js_forN (fun i => lgnP c N i) (ji_congr (N' := N) (ys' := fun i => mT [mNs ((Afw.spB c N).1.getD i []), mL (((Afw.spB c N).2.getD i []).map mKA)]) (pi_zip2J (rJ_list (je_ix (jpv 0) (i := 0) (m := mL ((Afw.spB c N).1.map mNs)) je_int rfl)) (rJ_list (je_ix (jpv 0) (i := 2) (m := mKAs (Afw.spB c N).2) je_int rfl)) T.b_zip) ?_ ?_) (by repeat (first | exact Le.nil | refine Le.same ?_ | refine Le.drop ?_)) (fun i hi => ?_) PassesOwn.never)
    (js_one (js_ret (jfz 4)))), .of ?_⟩
  · intro i hi
    rw [List.length_map, List.length_map, hE.e, hml] at hi
    rw [getD_map (d := []) (by rw [hE.e]; omega), getD_map (d := []) (by rw [hml]; omega)]
  · rw [List.length_map, List.length_map, hE.e, hml]; omega
  · have hsp := hall _ (getD_mem (d := []) (show i < (Afw.spB c N).1.length by rw [hE.e]; exact hi))
    have hrow := fun x => web_row hE hi (x := x)
    have hlen := web_len (c := c) hi
    show ∃ B s, JG _ _ _ _ _ _ ∧ JSs _ _ _ _ _ ∧ Le s (lgnP c N (i + 1))
    delta lgnP
    rw [take_succ (d := []) (by rw [hml]; exact hi), List.map_append]
    generalize (Afw.spB c N).1.getD i [] = sp at *
    generalize (Afw.spB c N).2.getD i [] = its at *
    have hl := hsp.l
    refine ⟨_, _, jg_tup (jgs_cons (jgn 5 sc_law_gains.nd) (jgs_cons (jgn 6 sc_law_gains.nd) jgs_nil)),
      js_cons (jsetO 7 (jo_lst ja_nil (Nat.zero_le _)) sc_law_gains.nd)
      (js_cons (js_forN (fun q => [.val (mWebL c N), .val (mLMs c), .val (mLs c.fs), .val (mLs c.cs), .own (oL (((Afw.spB c N).2.take i).map fun it => mL (it.map mMl))), .val (mNs sp), .val (mL (its.map mKA)), .own (oL ((its.take q).map mMl)), .any, .any, .any, .any])
        (ji_map (f := mKA) (xs := its) (0, 0, 0) (.inl rfl) (jv 6) (g := fun q => mT [mNat (its.getD q (0, 0, 0)).1, mNat (its.getD q (0, 0, 0)).2.1]) (fun _ _ => rfl)) (by repeat (first | exact Le.nil | refine Le.same ?_ | refine Le.drop ?_)) (fun q hq => ?_) PassesOwn.never)
      (js_one (js_app 4 (m := mL (its.map mMl)) (je_of (jfz 7) (by rw [List.take_length])) (hl := by rw [List.length_map, List.length_take]; omega)))), (by repeat (first | exact Le.nil | refine Le.same ?_ | refine Le.drop ?_))⟩
    rw [take_succ (d := (0, 0, 0)) hq, List.map_append]
    obtain ⟨hk, hgn⟩ := hrow _ (getD_mem (d := (0, 0, 0)) hq)
    have hqa : q < c.asks.length := by omega
    generalize its.getD q (0, 0, 0) = xx at *
    obtain ⟨k, af, gn⟩ := xx
    have hk : k < c.asks.length := hk
    have hgn : gn = gainT c sp k c.ms.length := hgn
    subst hgn
    refine ⟨_, _, jg_tup (jgs_cons (jgn 8 sc_law_gains.nd) (jgs_cons (jgn 9 sc_law_gains.nd) jgs_nil)),
      js_cons (jset 10 (m := mInt (gainT c sp k 0)) (je_ixLF (f := mInt) (xs := c.cs) 0 k (jpv 3) (jv 8) rfl (by omega)) sc_law_gains.nd)
      (js_cons (js_forN (fun j => [.val (mWebL c N), .val (mLMs c), .val (mLs c.fs), .val (mLs c.cs), .own (oL (((Afw.spB c N).2.take i).map fun it => mL (it.map mMl))), .val (mNs sp), .val (mL (its.map mKA)), .own (oL ((its.take q).map mMl)), .val (mNat k), .val (mNat af), .val (mInt (gainT c sp k j)), .any])
        (ji_range1 (je_of (je_lenL (jpv 1) T.b_len) (by rw [List.length_map])) (by omega) (by omega) T.b_range) (by repeat (first | exact Le.nil | refine Le.same ?_ | refine Le.drop ?_)) (fun j hj => ?_) PassesOwn.never)
      (js_one (js_app 7 (m := mMl (k, af, gainT c sp k c.ms.length)) (je_tup (ja_cons (jv 8) (ja_cons (jv 9) (ja1 (je_of (jv 10) (by rw [Int.toNat_natCast]))))) (Nat.le_of_ble_eq_true rfl)) (hl := by rw [List.length_map, List.length_take]; omega)))), (by repeat (first | exact Le.nil | refine Le.same ?_ | refine Le.drop ?_))⟩
    have hj : j < c.ms.length := by omega
    have sj := hsp.k j hj
    have hst := hc.st _ (getD_mem (d := (0, [])) hj)
    have hil : ((c.ms.getD j (0, [])).2.getD (sp.getD j 0).toNat []).length = c.asks.length := hst.l _ (getD_mem sj.2)
    have hfj := hc.fb _ (getD_mem (d := 0) (show j < c.fs.length by omega))
    exact ⟨_, _, jgn 11 sc_law_gains.nd, js_one (jset 10 (m := mInt (gainT c sp k (j + 1))) (je_add (jv 10) (je_mul (je_ixLF (f := mInt) (xs := c.fs) 0 j (jpv 2) (jv 11) rfl (by omega))
      (je_ixT (ms := [mInt (stepAt c sp k j).1, mInt (stepAt c sp k j).2]) (i := 1) (m := mInt (stepAt c sp k j).2) (je_ixLF (f := mPair) (xs := (c.ms.getD j (0, [])).2.getD (sp.getD j 0).toNat []) (0, 0) k (jp_of (je_ixLF (f := mItL) (xs := (c.ms.getD j (0, [])).2) [] (sp.getD j 0).toNat (jp_of (je_ix (jp_of (je_ixLF (f := fun m => mLMach m.1 m.2) (xs := c.ms) (0, []) j (jpv 1) (jv 11) rfl hj)) (i := 1) (m := mLL (c.ms.getD j (0, [])).2) je_int rfl)) (je_ixNs j (jv 5) (jv 11) rfl (by omega)) (by omega) sj.2)) (jv 8) rfl (by omega)) je_int rfl) (.inl hfj))) sc_law_gains.nd), (by repeat (first | exact Le.nil | refine Le.same ?_ | refine Le.drop ?_))⟩
  · show mL _ = mL _
    rw [List.take_of_length_le (by rw [hml]; exact Nat.le_refl _)]
end Afw

/-! text D31 -/
set_option Elab.async false
set_option linter.all false
set_option maxRecDepth 100000
set_option maxHeartbeats 4000000
namespace Afw
open PySem PySem.W L2 PySem.Spec PyProof.Rows Jd
variable {P : Program} {w : World} {K : PySem.W.Frag} {mg : Str → Option Value} {base : Heap}
/-! ### what is told of the exception classes -/
theorem oexB_ok {C : Addr} (h : oexB K C = true) : ∃ nm q N bs bm sn sub ab col dd k0 k1 k2 k3 k5, K.lookup C = some (excClassObj nm q C N bs bm true sn sub ab col dd k0 k1 k2 k3 k5 "ValueError.__new__") ∧ PySem.HandSPX.refsVE bm = true := by
  unfold oexB at h
  split at h
  · rename_i dd cd sl hl
    split at h
    · rename_i D bm k0 k1 k2 k3 n k5 hm hs
      obtain ⟨h1, h⟩ := Bool.and_eq_true_iff.mp h
      obtain ⟨h2, h⟩ := Bool.and_eq_true_iff.mp h
      obtain ⟨h3, h⟩ := Bool.and_eq_true_iff.mp h
      obtain ⟨h4, h5⟩ := Bool.and_eq_true_iff.mp h
      obtain ⟨nm, bs, mro, ns, qn, hd, sn, sub, ab, col, del⟩ := cd
      obtain ⟨l⟩ := sl
      have h1 := of_decide_eq_true h1
      have h2 := of_decide_eq_true h2
      dsimp only at hm hs h3 h4
      subst hm hs h1 h2 h4
      cases del with
      | true => cases h3
      | false => exact ⟨nm, qn, ns, bs, bm, sn, sub, ab, col, dd, k0, k1, k2, k3, k5, hl, h5⟩
    · cases h
  · cases h
theorem allB_at : ∀ {l : List Bool}, allB l = true → ∀ (i : Nat) {b : Bool}, l[i]? = some b → b = true
  | b :: l, h, 0, _, e => by
    have e : b = _ := Option.some.inj e
    rw [← e]
    exact (Bool.and_eq_true_iff.mp h).1
  | b :: l, h, i + 1, _, e => allB_at (Bool.and_eq_true_iff.mp h).2 i e
  | [], _, _, _, e => by cases e
theorem mkx_ok {C fI : Addr} {f : Str} (h : allB (mkxL K C fI f) = true) : MkX K C fI f ∧ XfC K C :=
  ⟨⟨⟨oexB_ok (allB_at h 0 rfl), of_decide_eq_true (allB_at h 1 rfl), of_decide_eq_true (allB_at h 2 rfl), of_decide_eq_true (allB_at h 3 rfl), allB_at h 4 rfl⟩, of_decide_eq_true (allB_at h 5 rfl), of_decide_eq_true (allB_at h 6 rfl), of_decide_eq_true (allB_at h 7 rfl)⟩, xfB_ok (allB_at h 8 rfl)⟩
theorem isx_ok {C : Addr} (h : allB (isxL K C) = true) : IsX K C :=
  ⟨allB_at h 0 rfl, of_decide_eq_true (allB_at h 1 rfl), of_decide_eq_true (allB_at h 2 rfl), of_decide_eq_true (allB_at h 3 rfl), of_decide_eq_true (allB_at h 4 rfl), of_decide_eq_true (allB_at h 5 rfl), of_decide_eq_true (allB_at h 6 rfl), of_decide_eq_true (allB_at h 7 rfl)⟩
/-- .. -/
structure Tz (K : PySem.W.Frag) : Prop where
  b : exB K = true
theorem Tz.mBF (Z : Tz K) : MkX K (cBF K) (iWT K) "thing" := (mkx_ok (allB_at Z.b 0 rfl)).1
theorem Tz.xBF (Z : Tz K) : XfC K (cBF K) := (mkx_ok (allB_at Z.b 0 rfl)).2
theorem Tz.mBC (Z : Tz K) : MkX K (cBC K) (iWT K) "thing" := (mkx_ok (allB_at Z.b 1 rfl)).1
theorem Tz.xBC (Z : Tz K) : XfC K (cBC K) := (mkx_ok (allB_at Z.b 1 rfl)).2
theorem Tz.mUL (Z : Tz K) : MkX K (cUL K) (iUL K) "word" := (mkx_ok (allB_at Z.b 2 rfl)).1
theorem Tz.xUL (Z : Tz K) : XfC K (cUL K) := (mkx_ok (allB_at Z.b 2 rfl)).2
theorem Tz.iBF (Z : Tz K) : IsX K (cBF K) := isx_ok (allB_at Z.b 3 rfl)
theorem Tz.kBF (Z : Tz K) : PySem.W.kitOne K (.ref (cBF K)) (.ref (cAE K)) = some true := of_decide_eq_true (allB_at Z.b 4 rfl)
theorem Tz.e11 (Z : Tz K) : PySem.W.exmOne K (.ref (cBF K)) (.ref (cBF K)) = some true := of_decide_eq_true (allB_at Z.b 5 rfl)
theorem Tz.e21 (Z : Tz K) : PySem.W.exmOne K (.ref (cBC K)) (.ref (cBF K)) = some false := of_decide_eq_true (allB_at Z.b 6 rfl)
theorem Tz.e22 (Z : Tz K) : PySem.W.exmOne K (.ref (cBC K)) (.ref (cBC K)) = some true := of_decide_eq_true (allB_at Z.b 7 rfl)
theorem Tz.e31 (Z : Tz K) : PySem.W.exmOne K (.ref (cUL K)) (.ref (cBF K)) = some false := of_decide_eq_true (allB_at Z.b 8 rfl)
theorem Tz.e32 (Z : Tz K) : PySem.W.exmOne K (.ref (cUL K)) (.ref (cBC K)) = some false := of_decide_eq_true (allB_at Z.b 9 rfl)
theorem Tz.e33 (Z : Tz K) : PySem.W.exmOne K (.ref (cUL K)) (.ref (cUL K)) = some true := of_decide_eq_true (allB_at Z.b 10 rfl)
theorem Tz.isi (Z : Tz K) (T : Tx K mg) : IsiC K (He.ga K "Store") := ⟨T.c_Store, of_decide_eq_true (allB_at Z.b 11 rfl), Z.iBF.hn, Z.iBF.ht, of_decide_eq_true (allB_at Z.b 12 rfl)⟩
/-! ### the __init__ of the classes -/
def HasS (P : Program) (w : World) (K : PySem.W.Frag) (mg : Str → Option Value) (base : Heap) (fI : Addr) (ps : List Str) (f : Str) : Prop := ∃ fd, FnOk P w K mg base CX0 1 fI fd ps (spSet K f) ∧ Binds K fd ps []
theorem ok_WT (T : Tx K mg) : HasS P w K mg base (iWT K) ["self", "thing"] "thing" := by
  obtain ⟨fd, D, B⟩ := T.D_WrongThing_init
  refine ⟨fd, D.ok sc_WrongThing_init (fun vs H Q E h => by
    obtain ⟨_, _, _, rfl, _⟩ := h
    rfl) fun cdv A outer s H vs Q E hr hsp => ?_, B⟩
  obtain ⟨a, C, v, rfl, hO, hn, ha, q⟩ := hsp
  exact ⟨_, pss_one (ps_ost (f := "thing") (pe_var (i := 0) rfl (Or.inl rfl)) (pe_var (i := 1) rfl (Or.inl rfl))), v, rfl, .ref a, rfl, a, C, rfl, hO, hn, .inl ⟨ha, fun dx h1 h2 => q dx h1 h2⟩⟩
theorem ok_UL (T : Tx K mg) : HasS P w K mg base (iUL K) ["self", "word"] "word" := by
  obtain ⟨fd, D, B⟩ := T.D_Unlike_init
  refine ⟨fd, D.ok sc_Unlike_init (fun vs H Q E h => by
    obtain ⟨_, _, _, rfl, _⟩ := h
    rfl) fun cdv A outer s H vs Q E hr hsp => ?_, B⟩
  obtain ⟨a, C, v, rfl, hO, hn, ha, q⟩ := hsp
  exact ⟨_, pss_one (ps_ost (f := "word") (pe_var (i := 0) rfl (Or.inl rfl)) (pe_var (i := 1) rfl (Or.inl rfl))), v, rfl, .ref a, rfl, a, C, rfl, hO, hn, .inl ⟨ha, fun dx h1 h2 => q dx h1 h2⟩⟩
end Afw

/-! text D32 -/
set_option Elab.async false
set_option linter.all false
set_option maxRecDepth 100000
set_option maxHeartbeats 4000000
namespace Jd
open PySem L2 PySem.Spec PyProof.Rows
/-- a def of the module that raises -/
def HasX (P : Program) (w : World) (K : PySem.W.Frag) (mg : Str → Option Value) (base : Heap) (k : Nat) (nm : Str) (ps : List Str) (sp : Sp) : Prop :=
  ∃ fd, FnOk P w K mg base (L2.CX P w) k (He.ga K nm) fd ps sp ∧ Binds K fd ps [] ∧ mg nm = some (.ref (He.ga K nm)) ∧ PySem.W.keepIn K (.ref (He.ga K nm)) = true
section
variable {X : Cx} {e : En} {ss ss1 ss2 : List Slot} {x a : Expr} {pos p : Pos} {m : Mp} {ms : List Mp} {k k' : Nat} {ps : List Str} {ι : Type} {pre : ι → Prop} {ins : ι → List Mp} {xp : ι → Xp} {nm : Str} {es : List Expr}
theorem je_callXH {i : ι} (A : Air X e (xp i)) (G : HasX X.prog X.w X.K X.mg X.base k nm ps (spX pre ins xp)) (hr : Room k' X.A) (hk : k ≤ k') (ha : JA X e (x :: es) ss ms ss1) (hp : pre i) (hi : ins i = ms := by rfl) (hg : Gl X nm := by rfl) (hdb : (nm == ("__debug__" : Str)) = false := by decide)
    (he : starEach (x :: es) X.env = (false, eval x X.env) :: starEach es X.env := by rfl) (hpl : (backTo pos (starEach es X.env)).any (·.1) = false := by rfl) : JE X e (.Call (.Name nm p) (x :: es) [] pos) ss m ss2 := by
  obtain ⟨fd, G, B, hm', kp⟩ := G
  exact je_ofX A fun W tk => jx_call (i := i) tk G (hr.mono hk) hm' kp B ha hi hp hg hdb he hpl
theorem je_tupSq (h : SeqOf m ms) (ha : JE X e a ss m ss1) (hm : X.mg "tuple" = none) (hg : Gl X "tuple" := by rfl) (hs : starEach [a] X.env = (false, eval a X.env) :: starEach [] X.env := by rfl) (hpl : (backTo pos (starEach [] X.env)).any (·.1) = false := by rfl) :
    JE X e (.Call (.Name "tuple" p) [a] [] pos) ss (mT ms) ss1 := by
  rcases h with h | h
  · subst h; exact je_tupOf (jp_of ha) hm hg hs hpl
  · subst h; exact je_tupOfT ha hm hg hs hpl
end
end Jd
namespace Afw
open PySem L2 PySem.Spec PyProof.Rows Jd
variable {P : Program} {w : World} {K : PySem.W.Frag} {mg : Str → Option Value} {base : Heap}
/-! ### what raises -/
structure TlsOk (K : PySem.W.Frag) (tm : Mp) (ds : List StD) : Prop where
  q : SeqOf tm (ds.map (mStore K))
  n : 1 ≤ ds.length
structure TlsX (K : PySem.W.Frag) (tm : Mp) (ds : List StD) : Prop extends TlsOk K tm ds where
  x : ∃ j, j < ds.length ∧ (ds.getD j d0).asks ≠ (ds.getD 0 d0).asks
structure TlsS (K : PySem.W.Frag) (tm : Mp) (ds : List StD) : Prop extends TlsOk K tm ds where
  s : ∀ d ∈ ds, d.asks = (ds.getD 0 d0).asks
abbrev X_check_asks (P : Program) (w : World) (K : PySem.W.Frag) (mg : Str → Option Value) (base : Heap) : Prop := HasX P w K mg base 3 "check_tellers" ["tellers", "factors"] (spX (fun p : Mp × List StD × Mp => TlsX K p.1 p.2.1) (fun p => [p.1, p.2.2]) fun _ => xpF (cUL K) "word" (mStr "asks"))
theorem xk_check_asks (T : Tx K mg) (Z : Tz K) : X_check_asks P w K mg base := by
  obtain ⟨fd, D, B⟩ := T.D_check_tellers
  obtain ⟨fI, GI, BI⟩ := ok_UL (P := P) (w := w) (base := base) T
  refine ⟨fd, fn_raise D sc_check_tellers (fun _ => rfl) (by decide) ?_, B, T.g_check_tellers, D.kp⟩
  rintro ⟨tm, ds, fm⟩ ⟨⟨hq, hn⟩, hx⟩ cdv A outer s H E e hr hA
  dsimp only at hq hn hx hA ⊢
  rcases first_fail (fun i => decide ((ds.getD i d0).asks = (ds.getD 0 d0).asks)) ds.length with h | ⟨k, k1, k2, k3⟩
  · obtain ⟨j, j1, j2⟩ := hx
    exact absurd (of_decide_eq_true (h j j1)) j2
  · refine ⟨[.any, .any, .any], js_rt (js_for (k := k) (P := fun _ => [.val tm, .val fm, .any]) (B := fun i => [.val tm, .val fm, .val (mStore K (ds.getD i d0))]) (rs := fun i => if decide ((ds.getD i d0).asks = (ds.getD 0 d0).asks) then .nx [.val tm, .val fm, .val (mStore K (ds.getD i d0))] else .rt mNo [.any, .any, .any]) (r := .rt mNo [.any, .any, .any])
      (ji_map (f := mStore K) (xs := ds) d0 hq (jv 0) (g := fun i => mStore K (ds.getD i d0)) (fun _ _ => rfl)) (by repeat (first | exact Le.nil | refine Le.same ?_ | refine Le.drop ?_)) (Nat.le_of_lt k1) (fun i _ _ => jgn 2 sc_check_tellers.nd) (fun i hi hik => ?_) (fun i hi => ?_) (.inr ⟨k1, ?_⟩) (passes_of rfl))⟩
    · by_cases z : (ds.getD i d0).asks = (ds.getD 0 d0).asks
      · rw [if_pos (decide_eq_true z)]
        exact js_one (js_if (jt_neS (je_fld (jv 2) rfl T.c_Store T.n_Store_asks) (je_fld (je_ixSq hq (i := 0) (n := mStore K (ds.getD 0 d0)) (jv 0) je_int (atI_mapN (i := 0) (getD_some hn))) rfl T.c_Store T.n_Store_asks)) (fun y => by rw [decide_eq_true z] at y; cases y) fun _ => js_nil)
      · rw [if_neg (fun y => z (of_decide_eq_true y))]
        exact js_one (js_if (jt_neS (je_fld (jv 2) rfl T.c_Store T.n_Store_asks) (je_fld (je_ixSq hq (i := 0) (n := mStore K (ds.getD 0 d0)) (jv 0) je_int (atI_mapN (i := 0) (getD_some hn))) rfl T.c_Store T.n_Store_asks)) (fun _ => js_one (js_raise hA (jm_make Z.mUL GI (hr.mono (by decide)) BI T.g_Unlike je_str))) fun y => by rw [decide_eq_false z] at y; cases y)
    · rw [if_pos (k3 i hi)]
      exact .nx (by repeat (first | exact Le.nil | refine Le.same ?_ | refine Le.drop ?_))
    · show Leaves (if decide ((ds.getD k d0).asks = (ds.getD 0 d0).asks) then _ else _) _
      rw [if_neg (by rw [k2]; decide)]
      exact .rt
abbrev X_check_factors (P : Program) (w : World) (K : PySem.W.Frag) (mg : Str → Option Value) (base : Heap) : Prop := HasX P w K mg base 3 "check_tellers" ["tellers", "factors"] (spX (fun p : Mp × List StD × Mp => TlsS K p.1 p.2.1 ∧ IntsR p.2.2 (p.2.1.length : Int) false) (fun p => [p.1, p.2.2]) fun p => xpF (cBF K) "thing" p.2.2)
theorem xk_check_factors (T : Tx K mg) (Z : Tz K) (G : H_integers P w K mg base) : X_check_factors P w K mg base := by
  obtain ⟨fd, D, B⟩ := T.D_check_tellers
  obtain ⟨fI, GI, BI⟩ := ok_WT (P := P) (w := w) (base := base) T
  refine ⟨fd, fn_raise D sc_check_tellers (fun _ => rfl) (by decide) ?_, B, T.g_check_tellers, D.kp⟩
  rintro ⟨tm, ds, fm⟩ ⟨⟨⟨hq, hn⟩, hs⟩, hi⟩ cdv A outer s H E e hr hA
  dsimp only at hq hn hs hi hA ⊢
  refine ⟨[.any, .any, .any], js_cons (js_forN (fun _ => [.val tm, .val fm, .any]) (ji_map (f := mStore K) (xs := ds) d0 hq (jv 0) (g := fun i => mStore K (ds.getD i d0)) (fun _ _ => rfl)) (by repeat (first | exact Le.nil | refine Le.same ?_ | refine Le.drop ?_)) (fun i hi => ⟨_, _, jgn 2 sc_check_tellers.nd,
      js_one (js_if (jt_neS (je_fld (jv 2) rfl T.c_Store T.n_Store_asks) (je_fld (je_ixSq hq (i := 0) (n := mStore K (ds.getD 0 d0)) (jv 0) je_int (atI_mapN (i := 0) (getD_some hn))) rfl T.c_Store T.n_Store_asks)) (fun z => ?_) fun _ => js_nil), (by repeat (first | exact Le.nil | refine Le.same ?_ | refine Le.drop ?_))⟩) (passes_of rfl))
    (js_one (js_if (jt_not (jt_val (je_callH (i := (fm, (ds.length : Int), false)) G hr (by omega) (ja_cons (jv 1) (ja1 (je_of (je_lenSq hq (jv 0) T.b_len) (by rw [List.length_map])))) hi))) (fun _ => js_one (js_raise hA (jm_make Z.mBF GI (hr.mono (by decide)) BI T.g_BadFactors (jv 1)))) fun z => by cases z))⟩
  · rw [decide_eq_true (hs _ (getD_mem hi))] at z
    cases z
abbrev X_checked_counts (P : Program) (w : World) (K : PySem.W.Frag) (mg : Str → Option Value) (base : Heap) : Prop := HasX P w K mg base 3 "checked_counts" ["asks", "counts"] (spX (fun p : Str × Mp => IntsR p.2 (p.1.length : Int) false ∧ NonB p.2 false ∧ p.1.length ≤ 1000) (fun p => [mStr p.1, p.2]) fun p => xpF (cBC K) "thing" p.2)
theorem xk_checked_counts (T : Tx K mg) (Z : Tz K) (G : H_integers P w K mg base) : X_checked_counts P w K mg base := by
  obtain ⟨fd, D, B⟩ := T.D_checked_counts
  obtain ⟨fI, GI, BI⟩ := ok_WT (P := P) (w := w) (base := base) T
  refine ⟨fd, fn_raise D sc_checked_counts (fun _ => rfl) (by decide) ?_, B, T.g_checked_counts, D.kp⟩
  rintro ⟨asks, cm⟩ ⟨hi, hN, hl⟩ cdv A outer s H E e hr hA
  dsimp only at hi hN hl hA ⊢
  exact ⟨[.any, .any], js_cons (js_if (t := false) (jt_isN (jv 1) hN) (fun z => by cases z) fun _ => js_nil)
    (js_rt (js_if (jt_not (jt_val (je_callH (i := (cm, (asks.length : Int), false)) G hr (by omega) (ja_cons (jv 1) (ja1 (je_lenS (jv 0) (by omega) T.b_len))) hi))) (fun _ => js_one (js_raise hA (jm_make Z.mBC GI (hr.mono (by decide)) BI T.g_BadCounts (jv 1)))) fun z => by cases z))⟩
abbrev N_checked_counts0 (P : Program) (w : World) (K : PySem.W.Frag) (mg : Str → Option Value) (base : Heap) : Prop := Has P w K mg base 3 "checked_counts" ["asks", "counts"] (spP (fun asks : Str => 1 ≤ asks.length ∧ asks.length ≤ 1000) (fun asks => [mStr asks, mNone]) fun asks => mT (List.replicate asks.length (mInt 0)))
theorem ok_checked_counts0 (T : Tx K mg) : N_checked_counts0 P w K mg base := by
  obtain ⟨fd, D, B⟩ := T.D_checked_counts
  refine ⟨fd, fn_pure D sc_checked_counts (fun _ => rfl) (by decide) ?_, B, T.g_checked_counts, D.kp⟩
  rintro asks ⟨h1, h2⟩ cdv A outer s H E e hr
  exact ⟨_, _, js_rt (js_if (t := true) (jt_isN (jv 1) nonB_none) (fun _ => js_one (js_ret (je_of (je_repT (je_tup (ja1 je_int) (Nat.le_of_ble_eq_true rfl)) (je_lenS (jv 0) (by omega) T.b_len) (by omega) (by omega)) (by rw [Int.toNat_natCast])))) fun z => by cases z), .rt⟩
/-- the four ways in which taken raises -/
inductive TkR (K : PySem.W.Frag) : Mp → Mp → Mp → Mp → Addr → Str → Mp → Prop where
  | asks {tm fm cm gm : Mp} {ds : List StD} (h : TlsX K tm ds) : TkR K tm fm cm gm (cUL K) "word" (mStr "asks")
  | facs {tm fm cm gm : Mp} {ds : List StD} (h : TlsS K tm ds) (hi : IntsR fm (ds.length : Int) false) : TkR K tm fm cm gm (cBF K) "thing" fm
  | cnts {tm fm cm gm : Mp} {ds : List StD} {fs : List Int} (h : TlsS K tm ds) (hf : SeqOf fm (fs.map mInt)) (hl : fs.length = ds.length) (hi : IntsR cm ((ds.getD 0 d0).asks.length : Int) false) (hN : NonB cm false) (ha : (ds.getD 0 d0).asks.length ≤ 1000) : TkR K tm fm cm gm (cBC K) "thing" cm
  | gate {tm fm : Mp} {ds : List StD} {fs : List Int} {ga : Str} {gs : List (List (Option Int))} (h : TlsS K tm ds) (hf : SeqOf fm (fs.map mInt)) (hl : fs.length = ds.length) (ha : 1 ≤ (ds.getD 0 d0).asks.length ∧ (ds.getD 0 d0).asks.length ≤ 1000) (hg : ga ≠ (ds.getD 0 d0).asks) : TkR K tm fm mNone (mGate K ga gs) (cUL K) "word" (mStr "gate")
structure TkI where
  tm : Mp
  fm : Mp
  cm : Mp
  gm : Mp
  C : Addr
  f : Str
  m : Mp
abbrev X_taken (P : Program) (w : World) (K : PySem.W.Frag) (mg : Str → Option Value) (base : Heap) : Prop := HasX P w K mg base 4 "taken" ["tellers", "factors", "counts", "gate"] (spX (fun i : TkI => TkR K i.tm i.fm i.cm i.gm i.C i.f i.m) (fun i => [i.tm, i.fm, i.cm, i.gm]) fun i => xpF i.C i.f i.m)
theorem xk_taken (T : Tx K mg) (Z : Tz K) (G1 : X_check_asks P w K mg base) (G2 : X_check_factors P w K mg base) (G3 : X_checked_counts P w K mg base) (G4 : H_check_tellers P w K mg base) (G5 : N_checked_counts0 P w K mg base) : X_taken P w K mg base := by
  obtain ⟨fd, D, B⟩ := T.D_taken
  obtain ⟨fI, GI, BI⟩ := ok_UL (P := P) (w := w) (base := base) T
  refine ⟨fd, fn_raise D sc_taken (fun _ => rfl) (by decide) ?_, B, T.g_taken, D.kp⟩
  rintro ⟨tm, fm, cm, gm, C, f, m⟩ h cdv A outer s H E e hr hA
  dsimp only at h hA ⊢
  cases h with
  | asks h => exact ⟨[.any, .any, .any, .any, .any, .any, .any, .any], js_rt (js_exprX (ss1 := []) (je_callXH (i := (tm, _, fm)) hA G1 hr (by omega) (ja_cons (jv 0) (ja1 (jv 1))) h))⟩
  | facs h hi => exact ⟨[.any, .any, .any, .any, .any, .any, .any, .any], js_rt (js_exprX (ss1 := []) (je_callXH (i := (tm, _, fm)) hA G2 hr (by omega) (ja_cons (jv 0) (ja1 (jv 1))) ⟨h, hi⟩))⟩
  | cnts h hf hl hi hN ha =>
    rename_i ds fs
    exact ⟨[.any, .any, .any, .any, .any, .any, .any, .any], js_cons (js_expr (je_callH (i := (tm, ds, fm, fs)) G4 hr (by omega) (ja_cons (jv 0) (ja1 (jv 1))) ⟨h.q, h.n, h.s, hf, hl⟩))
      (js_cons (jset 4 (je_fld (je_ixSq h.q (i := 0) (n := mStore K (ds.getD 0 d0)) (jv 0) je_int (atI_mapN (i := 0) (getD_some h.n))) rfl T.c_Store T.n_Store_asks) sc_taken.nd)
      (js_rt (js_dead (k := 5) (m := mT [mT (fs.map mInt), mNo]) (jset 5 (je_tup (ja_cons (je_tupSq hf (jv 1) T.b_tuple) (ja1 (je_callXH (ss2 := [.val tm, .val fm, .val cm, .val gm, .val (mStr (ds.getD 0 d0).asks), .any, .any, .any]) (i := ((ds.getD 0 d0).asks, cm)) hA G3 hr (by omega) (ja_cons (jv 4) (ja1 (jv 2))) ⟨hi, hN, ha⟩))) (Nat.le_of_ble_eq_true rfl)) sc_taken.nd) rfl (fun F v hv => by
        obtain ⟨a, vs, _, _, h3⟩ := hv
        match vs, h3 with
        | [_, _], h3 => exact h3.2.1))))⟩
  | gate h hf hl ha hg =>
    rename_i ds fs ga gs
    exact ⟨[.any, .any, .any, .any, .any, .any, .any, .any], js_cons (js_expr (je_callH (i := (tm, ds, fm, fs)) G4 hr (by omega) (ja_cons (jv 0) (ja1 (jv 1))) ⟨h.q, h.n, h.s, hf, hl⟩))
      (js_cons (jset 4 (je_fld (je_ixSq h.q (i := 0) (n := mStore K (ds.getD 0 d0)) (jv 0) je_int (atI_mapN (i := 0) (getD_some h.n))) rfl T.c_Store T.n_Store_asks) sc_taken.nd)
      (js_cons (jset 5 (je_tup (ja_cons (je_tupSq hf (jv 1) T.b_tuple) (ja1 (je_callH (i := (ds.getD 0 d0).asks) G5 hr (by omega) (ja_cons (jv 4) (ja1 (jv 2))) ha))) (Nat.le_of_ble_eq_true rfl)) sc_taken.nd)
      (js_rt (js_if (t := true) (jt_of (jt_w (jw_and (t := !false) (jt_notN (jv 3) nonB_I) fun _ => jw_one (jt_neS (je_fld (jv 3) rfl T.c_Gate T.n_Gate_asks) (jv 4)))) (by rw [decide_eq_false hg]; rfl)) (fun _ => js_one (js_raise hA (jm_make Z.mUL GI (hr.mono (by decide)) BI T.g_Unlike je_str))) fun z => by cases z))))⟩
end Afw

/-! text D33 -/
set_option Elab.async false
set_option linter.all false
set_option maxRecDepth 100000
set_option maxHeartbeats 4000000
namespace Jd
open PySem L2 PySem.Spec PyProof.Rows
/-- the same with keywords, all of them written -/
def HasKX (P : Program) (w : World) (K : PySem.W.Frag) (mg : Str → Option Value) (base : Heap) (k : Nat) (nm : Str) (ps : List Str) (n : Nat) (ks : List Str) (sp : Sp) : Prop :=
  ∃ fd, FnOk P w K mg base (L2.CX P w) k (He.ga K nm) fd ps sp ∧ KBn K fd ps n ks (fun us ws => us ++ ws) (fun vs zs => vs ++ zs) ∧ mg nm = some (.ref (He.ga K nm)) ∧ PySem.W.keepIn K (.ref (He.ga K nm)) = true
section
variable {X : Cx} {e : En} {ss ss1 ss2 : List Slot} {x a : Expr} {pos p : Pos} {m : Mp} {ms ks' : List Mp} {k k' n : Nat} {ps ks : List Str} {ι : Type} {pre : ι → Prop} {ins : ι → List Mp} {xp : ι → Xp} {nm : Str} {es : List Expr} {kws : List Keyword} {W : WX}
theorem jx_callK {i : ι} (tk : Takes X W) (G : HasKX X.prog X.w X.K X.mg X.base k nm ps n ks (spX pre ins xp)) (hr : Room k' X.A) (hk : k ≤ k') (ha : JA X e (x :: es) ss ms ss1) (hkw : JK X e kws ss1 ks' ss2) (hp : pre i) (hi : ins i = ms ++ ks' := by rfl) (hn : ms.length = n := by rfl) (hn2 : ks'.length = ks.length := by rfl) (hg : Gl X nm := by rfl)
    (hall : (backToKw pos (keywordEach kws X.env)).all (·.1.isSome) = true := by rfl) (hks : (backToKw pos (keywordEach kws X.env)).filterMap (·.1) = ks := by rfl) (hdb : (nm == ("__debug__" : Str)) = false := by decide)
    (he : starEach (x :: es) X.env = (false, eval x X.env) :: starEach es X.env := by rfl) (hpl : ((backTo pos (starEach (x :: es) X.env)).any (·.1) || (backToKw pos (keywordEach kws X.env)).any (·.1.isNone)) = false := by rfl) :
    JX X e W (.Call (.Name nm p) (x :: es) kws pos) ss (xp i) ss2 := by
  obtain ⟨fd, G, B, hm', kp⟩ := G
  exact PE_mono (pe_callNS tk G (hr.mono hk) hg hm' kp B ha hkw hall hks hdb he hpl) fun σ H Q ⟨F, I, K⟩ => ⟨F, I, fun vs F1 H1 x1 I1 hA => ⟨F1, I1, fun zs F2 H2 x2 I2 hz =>
    ⟨by rw [hA.length, hn], by rw [hz.length, hn2], i, hp, F2, I2.sub, by rw [hi]; exact (hA.up x2).append hz, fun cls d F' H' fr hx => K cls d F' H' (x1.trans (x2.trans fr.f)) (I2.called fr) hx⟩⟩⟩
end
theorem str_empty (s : Str) : s ++ Str.empty = s := by
  show (⟨s.cps ++ #[]⟩ : Str) = s
  rw [Array.append_empty]
end Jd
namespace Afw
open PySem L2 PySem.Spec PyProof.Rows Jd
variable {P : Program} {w : World} {K : PySem.W.Frag} {mg : Str → Option Value} {base : Heap}
abbrev X_judge_ring (P : Program) (w : World) (K : PySem.W.Frag) (mg : Str → Option Value) (base : Heap) : Prop := HasKX P w K mg base 5 "judge_ring" ["tellers", "factors", "stem", "ring", "counts", "gate"] 4 ["counts", "gate"] (spX (fun i : TkI => TkR K i.tm i.fm i.cm i.gm i.C i.f i.m) (fun i => [i.tm, i.fm, mNone, mNone, i.cm, i.gm]) fun i => xpF i.C i.f i.m)
theorem xk_judge_ring (T : Tx K mg) (G : X_taken P w K mg base) : X_judge_ring P w K mg base := by
  obtain ⟨fd, D⟩ := T.D_judge_ring
  refine ⟨fd, fn_raise D sc_judge_ring (fun _ => rfl) (by decide) ?_, kb_judge_ring D, T.g_judge_ring, D.kp⟩
  rintro i h cdv A outer s H E e hr hA
  exact ⟨[.any, .any, .any, .any, .any, .any, .any, .any, .any, .any, .any, .any], js_rt (js_dead (k := 6) (m := mNo) (js_asg (m := mT [mNo, mNo, mNo]) (je_callXH (ss2 := [.val i.tm, .val i.fm, .val mNone, .val mNone, .val i.cm, .val i.gm, .any, .any, .any, .any, .any, .any]) (i := i) hA G hr (by omega) (ja_cons (jv 0) (ja_cons (jv 1) (ja_cons (jv 4) (ja1 (jv 5))))) h)
    (jg_tup (jgs_cons (jgn 6 sc_judge_ring.nd) (jgs_cons (jgn 7 sc_judge_ring.nd) (jgs_cons (jgn 8 sc_judge_ring.nd) jgs_nil))))) rfl fun F v hv => hv)⟩
/-! ### _law_refused -/
structure RfI where
  i : TkI
  z : Str
inductive RfR (K : PySem.W.Frag) : RfI → Prop where
  | word {tm fm cm gm : Mp} {wd : Str} (h : TkR K tm fm cm gm (cUL K) "word" (mStr wd)) : RfR K ⟨⟨tm, fm, cm, gm, cUL K, "word", mStr wd⟩, wd⟩
  | facs {tm fm cm gm m : Mp} {zr : Str} (h : TkR K tm fm cm gm (cBF K) "thing" m) (hs : Shown m zr) (hl : zr.length ≤ 1000) : RfR K ⟨⟨tm, fm, cm, gm, cBF K, "thing", m⟩, "factors " ++ zr⟩
  | cnts {tm fm cm gm m : Mp} {zr : Str} (h : TkR K tm fm cm gm (cBC K) "thing" m) (hs : Shown m zr) (hl : zr.length ≤ 1000) : RfR K ⟨⟨tm, fm, cm, gm, cBC K, "thing", m⟩, "counts " ++ zr⟩
theorem app_len (a b : Str) : (a ++ b).length = a.length + b.length := by
  show (a.cps ++ b.cps).size = _
  rw [Array.size_append]
  rfl
abbrev G_law_refused (P : Program) (w : World) (K : PySem.W.Frag) (mg : Str → Option Value) (base : Heap) : Prop := HasG P w K mg base 6 "_law_refused" ["_law_tellers", "_law_factors", "_law_tally", "_law_door"] (spP (fun i : RfI => RfR K i) (fun i => [i.i.tm, i.i.fm, i.i.cm, i.i.gm]) fun i => mStr i.z)
theorem ok_law_refused (T : Tx K mg) (Z : Tz K) (G : X_judge_ring P w K mg base) : G_law_refused P w K mg base := by
  obtain ⟨fd, D, B⟩ := T.D_law_refused
  refine ⟨fd, fnG_pure D sc_law_refused (fun _ => rfl) (by decide) ?_, B, T.g_law_refused, D.kp⟩
  rintro i hi cdv A outer s H E e hG hr
  have hz0 : sizeLine = 16777216 := sizeLine_eq
  have hu20 := Nat.lt_of_le_of_lt (Nat.add_le_add_left (by decide : 20 ≤ 64) _) hr.units
  cases hi with
  | word h =>
    rename_i tm fm cm gm wd
    exact ⟨_, [.any, .any, .any, .any, .any], js_rt (js_tryX (k := 4) (C := cUL K) (f := "word") (m := mStr wd) (ss1 := [.val tm, .val fm, .val cm, .val gm, .any])
      (.cons (c := .ref (cBF K)) (ts := tsNo) ⟨rfl, by decide, .inl T.g_BadFactors⟩ (fun _ _ _ _ _ _ _ => clause_no) (.cons (c := .ref (cBC K)) (ts := tsNo) ⟨rfl, by decide, .inl T.g_BadCounts⟩ (fun _ _ _ _ _ _ _ => clause_no)
        (.cons (c := .ref (cUL K)) ⟨rfl, by decide, .inl T.g_Unlike⟩ (fun z oz cls d pn hz hu => clause_A hz hu fun dd hz' => js_weakR (js_one (js_ret (je_xf (k := 4) Z.xUL Z.mUL.n hz' hu rfl rfl))) (by repeat (first | exact Le.nil | refine Le.same ?_ | refine Le.drop ?_))) .nil)))
      (.next Z.e31 (.next Z.e32 (.here Z.e33))) (fun W pn xe tk => jx_callK (i := ⟨tm, fm, cm, gm, cUL K, "word", mStr wd⟩) tk G hr (by omega) (ja_cons (jv 0) (ja_cons (jv 1) (ja_cons je_none (ja1 je_none)))) (jk_cons (jv 2) (jk_cons (jv 3) jk_nil)) h) sc_law_refused.nd rfl), .of rfl⟩
  | facs h hs hl =>
    rename_i tm fm cm gm m zr
    exact ⟨_, [.any, .any, .any, .any, .any], js_rt (js_tryX (k := 4) (C := cBF K) (f := "thing") (m := m) (ss1 := [.val tm, .val fm, .val cm, .val gm, .any])
      (.cons (c := .ref (cBF K)) ⟨rfl, by decide, .inl T.g_BadFactors⟩ (fun z oz cls d pn hz hu => clause_A hz hu fun dd hz' => js_weakR (js_one (js_ret (je_of (je_addS (je_addS je_str (je_repr hs (by exact hG) (by exact hu20) (je_xf (k := 4) Z.xBF Z.mBF.n hz' hu rfl rfl) T.b_repr) (by show 8 + zr.length ≤ sizeLine; omega))
          (je_mulS (i := 0) je_str (je_of (je_intB (je_not (je_isX (k := 4) Z.iBF Z.kBF hz' hu rfl rfl T.b_isinstance T.g_AfterError)) T.b_int) rfl) (by decide) (by decide) (by decide)) (by rw [app_len]; show 8 + zr.length + 0 ≤ sizeLine; omega)) (by
            show mStr (("factors " ++ zr) ++ Str.empty) = _
            rw [str_empty])))) (by repeat (first | exact Le.nil | refine Le.same ?_ | refine Le.drop ?_)))
        (.cons (c := .ref (cBC K)) (ts := tsNo) ⟨rfl, by decide, .inl T.g_BadCounts⟩ (fun _ _ _ _ _ _ _ => clause_no) (.cons (c := .ref (cUL K)) (ts := tsNo) ⟨rfl, by decide, .inl T.g_Unlike⟩ (fun _ _ _ _ _ _ _ => clause_no) .nil)))
      (.here Z.e11) (fun W pn xe tk => jx_callK (i := ⟨tm, fm, cm, gm, cBF K, "thing", m⟩) tk G hr (by omega) (ja_cons (jv 0) (ja_cons (jv 1) (ja_cons je_none (ja1 je_none)))) (jk_cons (jv 2) (jk_cons (jv 3) jk_nil)) h) sc_law_refused.nd rfl), .of rfl⟩
  | cnts h hs hl =>
    rename_i tm fm cm gm m zr
    exact ⟨_, [.any, .any, .any, .any, .any], js_rt (js_tryX (k := 4) (C := cBC K) (f := "thing") (m := m) (ss1 := [.val tm, .val fm, .val cm, .val gm, .any])
      (.cons (c := .ref (cBF K)) (ts := tsNo) ⟨rfl, by decide, .inl T.g_BadFactors⟩ (fun _ _ _ _ _ _ _ => clause_no) (.cons (c := .ref (cBC K)) ⟨rfl, by decide, .inl T.g_BadCounts⟩ (fun z oz cls d pn hz hu => clause_A hz hu fun dd hz' => js_weakR (js_one (js_ret (je_addS je_str (je_repr hs (by exact hG) (by exact hu20) (je_xf (k := 4) Z.xBC Z.mBC.n hz' hu rfl rfl) T.b_repr) (by show 7 + zr.length ≤ sizeLine; omega)))) (by repeat (first | exact Le.nil | refine Le.same ?_ | refine Le.drop ?_)))
        (.cons (c := .ref (cUL K)) (ts := tsNo) ⟨rfl, by decide, .inl T.g_Unlike⟩ (fun _ _ _ _ _ _ _ => clause_no) .nil)))
      (.next Z.e21 (.here Z.e22)) (fun W pn xe tk => jx_callK (i := ⟨tm, fm, cm, gm, cBC K, "thing", m⟩) tk G hr (by omega) (ja_cons (jv 0) (ja_cons (jv 1) (ja_cons je_none (ja1 je_none)))) (jk_cons (jv 2) (jk_cons (jv 3) jk_nil)) h) sc_law_refused.nd rfl), .of rfl⟩
end Afw

/-! text D34 -/
set_option Elab.async false
set_option linter.all false
set_option maxRecDepth 100000
set_option maxHeartbeats 4000000
namespace Afw
open PySem L2 PySem.Spec PyProof.Rows Jd
variable {P : Program} {w : World} {K : PySem.W.Frag} {mg : Str → Option Value} {base : Heap}
/-! ### _law_orders -/
theorem isSeq_D0 : IsSeq mD0 false := ⟨"dict", false, false, tyM_D0, by decide +kernel, by decide +kernel, rfl⟩
theorem nonB_D0 : NonB mD0 false := fun _ _ ⟨_, h, _⟩ => by cases h; rfl
/-- no so many integers; how it is shown -/
structure Thg (m : Mp) (n : Int) : Prop where
  i : IntsR m n false
  z : ∃ zr, Shown m zr ∧ zr.length ≤ 1000
theorem line_ge : 1000 ≤ sizeLine := by rw [sizeLine_eq]; decide
theorem shown_len {d : PyData} (h : d.shown.length ≤ 1000) : d.shown.length ≤ sizeLine := Nat.le_trans h line_ge
theorem thg_none {n : Int} : Thg mNone n := ⟨.no isSeq_none, _, shown_none, by decide +kernel⟩
theorem thg_int {n : Int} : Thg (mInt 5) n := ⟨.no isSeq_int, _, shown_int (by decide +kernel), by decide +kernel⟩
theorem thg_str {n : Int} {z : Str} (h : (reprText z).length ≤ 1000) : Thg (mStr z) n := ⟨.no isSeq_str, _, shown_str (Nat.le_trans h line_ge), h⟩
theorem thg_D0 {n : Int} : Thg mD0 n := ⟨.no isSeq_D0, _, shown_D0, by decide +kernel⟩
theorem ints_len {ms : List Mp} {n : Int} {b : Bool} (h : (ms.length : Int) ≠ n) (hb : ∀ i, i < ms.length → IsInt (ms.getD i mTrue) b) : IntsR (mL ms) n false := by
  have := IntsR.seq (many := n) (fun _ => b) (.inl rfl) hb
  rw [decide_eq_false h, Bool.false_and] at this
  exact this
theorem ints_bad {ms : List Mp} {n : Int} (h : 1 ≤ ms.length) (hb : ∀ i, i < ms.length → IsInt (ms.getD i mTrue) false) : IntsR (mL ms) n false := by
  have := IntsR.seq (many := n) (fun _ => false) (.inl rfl) hb
  have e : (List.range ms.length).all (fun _ => false) = false := by
    cases z : (List.range ms.length).all (fun _ => false) with
    | false => rfl
    | true => exact absurd (all_range.mp z 0 (by omega)) (by decide)
  rw [e, Bool.and_false] at this
  exact this
theorem thg_L {ms : List Mp} {ds : List PyData} {n : Int} (hi : IntsR (mL ms) n false) (h : DatMs ms ds) (hs : (PyData.list ds).showable = true) (hd : (PyData.list ds).hasDict = false) (hu : (PyData.list ds).depth ≤ 8) (hz : (PyData.list ds).shown.length ≤ 1000) : Thg (mL ms) n :=
  ⟨hi, _, shown_L h hs hd hu (shown_len hz), hz⟩
theorem rep_at {m : Mp} {k i : Nat} (h : i < (List.replicate k m).length) : (List.replicate k m).getD i mTrue = m := by
  rw [List.getD_eq_getElem?_getD, List.getElem?_replicate, if_pos (by rw [List.length_replicate] at h; exact h)]
  rfl
theorem thg_rep {m : Mp} {d : PyData} {b : Bool} {k : Nat} {n : Int} (hk : 1 ≤ k ∧ k ≤ 5) (hm : DatM m d) (hb : IsInt m b) (hbn : b = false ∨ (k : Int) ≠ n) (hs : ∀ j : Nat, j ≤ 5 → (PyData.list (List.replicate j d)).showable = true ∧ (PyData.list (List.replicate j d)).hasDict = false ∧ (PyData.list (List.replicate j d)).depth ≤ 8 ∧ (PyData.list (List.replicate j d)).shown.length ≤ 1000) : Thg (mL (List.replicate k m)) n := by
  obtain ⟨h1, h2, h3, h4⟩ := hs k hk.2
  have at_ : ∀ i, i < (List.replicate k m).length → IsInt ((List.replicate k m).getD i mTrue) b := fun i hi => by rw [rep_at hi]; exact hb
  refine thg_L ?_ (datMs_rep hm k) h1 h2 h3 h4
  rcases hbn with rfl | h
  · exact ints_bad (by rw [List.length_replicate]; exact hk.1) at_
  · exact ints_len (by rw [List.length_replicate]; exact h) at_
theorem upto5 {p : Nat → Prop} (h0 : p 0) (h1 : p 1) (h2 : p 2) (h3 : p 3) (h4 : p 4) (h5 : p 5) : ∀ j : Nat, j ≤ 5 → p j
  | 0, _ => h0
  | 1, _ => h1
  | 2, _ => h2
  | 3, _ => h3
  | 4, _ => h4
  | 5, _ => h5
  | j + 6, h => absurd h (by omega)
abbrev oddL : List Mp := [mNone, mL [mInt 1, mInt 1], mL [], mL [mBool true], mL [mStr "1"], mInt 5, mStr "1"]
abbrev badL (n : Nat) : List Mp := [mL (List.replicate (n + 1) (mInt 0)), mInt 5, mL (List.replicate n (mBool true)), mStr (repS "0" n), mL (List.replicate n mNone), mD0]
theorem odd_thg : ∀ j, j < oddL.length → Thg (oddL.getD j mTrue) 1
  | 0, _ => thg_none
  | 1, _ => thg_L (ds := [.int 1, .int 1]) (ints_len (by decide) (b := true) fun i hi => (match i, hi with
    | 0, _ => isInt_int
    | 1, _ => isInt_int)) (.cons datM_int (.cons datM_int .nil)) (by decide +kernel) (by decide +kernel) (by decide +kernel) (by decide +kernel)
  | 2, _ => thg_L (ds := []) (ints_len (by decide) (b := true) fun i hi => absurd hi (Nat.not_lt_zero _)) .nil (by decide +kernel) (by decide +kernel) (by decide +kernel) (by decide +kernel)
  | 3, _ => thg_L (ds := [.bool true]) (ints_bad (by decide) fun i hi => (match i, hi with
    | 0, _ => isInt_bool)) (.cons datM_bool .nil) (by decide +kernel) (by decide +kernel) (by decide +kernel) (by decide +kernel)
  | 4, _ => thg_L (ds := [.str "1"]) (ints_bad (by decide) fun i hi => (match i, hi with
    | 0, _ => isInt_str)) (.cons datM_str .nil) (by decide +kernel) (by decide +kernel) (by decide +kernel) (by decide +kernel)
  | 5, _ => thg_int
  | 6, _ => thg_str (by decide +kernel)
  | j + 7, h => absurd h (by show ¬ j + 7 < 7; omega)
theorem bad_thg {n : Nat} (h1 : 1 ≤ n) (h4 : n ≤ 4) : ∀ j, j < (badL n).length → Thg ((badL n).getD j mTrue) n ∧ NonB ((badL n).getD j mTrue) false
  | 0, _ => ⟨thg_rep (b := true) ⟨by omega, by omega⟩ datM_int isInt_int (.inr (by omega)) (upto5 (by decide +kernel) (by decide +kernel) (by decide +kernel) (by decide +kernel) (by decide +kernel) (by decide +kernel)), nonB_L⟩
  | 1, _ => ⟨thg_int, nonB_int⟩
  | 2, _ => ⟨thg_rep (b := false) ⟨h1, by omega⟩ datM_bool isInt_bool (.inl rfl) (upto5 (by decide +kernel) (by decide +kernel) (by decide +kernel) (by decide +kernel) (by decide +kernel) (by decide +kernel)), nonB_L⟩
  | 3, _ => ⟨thg_str (upto5 (p := fun n => (reprText (repS "0" n)).length ≤ 1000) (by decide +kernel) (by decide +kernel) (by decide +kernel) (by decide +kernel) (by decide +kernel) (by decide +kernel) n (by omega)), nonB_str⟩
  | 4, _ => ⟨thg_rep (b := false) ⟨h1, by omega⟩ datM_none isInt_none (.inl rfl) (upto5 (by decide +kernel) (by decide +kernel) (by decide +kernel) (by decide +kernel) (by decide +kernel) (by decide +kernel)), nonB_L⟩
  | 5, _ => ⟨thg_D0, nonB_D0⟩
  | j + 6, h => absurd h (by show ¬ j + 6 < 6; omega)
def farS (z : Str) : Str := cutS "defg" none (some (z.length : Int))
theorem far_ok : ∀ z ∈ askL, askOk z = true ∧ askOk (farS z) = true ∧ farS z ≠ z ∧ (farS z).length = z.length := by decide +kernel
end Afw

/-! text D35 -/
set_option Elab.async false
set_option linter.all false
set_option maxRecDepth 100000
set_option maxHeartbeats 4000000
namespace Afw
open PySem L2 PySem.Spec PyProof.Rows Jd
variable {P : Program} {w : World} {K : PySem.W.Frag} {mg : Str → Option Value} {base : Heap}
abbrev farD (d : StD) : StD := ⟨farS d.asks, d.begins, d.costs, d.ends⟩
abbrev far0 (d : StD) : List (List (Option Int)) := [List.replicate d.asks.length (some 0)]
abbrev G_law_orders (P : Program) (w : World) (K : PySem.W.Frag) (mg : Str → Option Value) (base : Heap) : Prop := HasG P w K mg base 9 "_law_orders" ["_law_source_here", "_law_store", "_law_asks_here"] (Jd.spB (fun d : StD => StOk d ∧ d.asks ∈ askL) (fun _ => oSrc) (fun _ => oSrc) (fun d => [mStore K d, mStr d.asks]) fun _ => mBool true)
theorem ok_law_orders (T : Tx K mg) (Z : Tz K) (G1 : H_law_draw P w K mg base) (G2 : H_law_lists P w K mg base) (G3 : H_Store P w K mg base) (G4 : H_Gate P w K mg base) (G5 : G_law_refused P w K mg base) : G_law_orders P w K mg base := by
  obtain ⟨fd, D, B⟩ := T.D_law_orders
  refine ⟨fd, fnG_bor D sc_law_orders (fun _ => rfl) (by decide) ?_, B, T.g_law_orders, D.kp⟩
  rintro d ⟨hd, ha⟩ cdv A outer s H E e ad hG hr
  obtain ⟨a1, a2, a3, a4⟩ := far_ok _ ha
  have hs := askOk_size a1
  have hu20 := Nat.lt_of_le_of_lt (Nat.add_le_add_left (by decide : 20 ≤ 64) _) hr.units
  have hl63 : sizeLine = 16777216 := sizeLine_eq
  have hfd : StOk (farD d) := ⟨a2, hd.n, by show (d.costs.length : Int) = (farS d.asks).length; rw [a4]; exact hd.k, hd.c, hd.e⟩
  have hgt : GateOk (farS d.asks) (far0 d) := ⟨a2, by show 1 ≤ 1 ∧ 1 ≤ 50; omega, fun os hos => by
    rw [List.mem_singleton.mp hos, List.length_replicate, a4]
    refine ⟨rfl, fun o ho i hi => ?_⟩
    rw [List.eq_of_mem_replicate ho] at hi
    cases hi
    exact ⟨Int.le_refl _, by show (0 : Int) < 1; omega⟩⟩
  refine ⟨.rt (mBool true) [.bor ad oSrc, .any, .any, .any, .any, .any, .any, .any], [.bor ad oSrc, .any, .any, .any, .any, .any, .any, .any],
    js_cons (jset 3 (je_callH (i := d) G2 hr (by omega) (ja1 (je_fz (jo_lst (ja_cons (je_fld (jv 1) rfl T.c_Store T.n_Store_asks) (ja_cons (je_fld (jv 1) rfl T.c_Store T.n_Store_begins) (ja_cons (je_fld (jv 1) rfl T.c_Store T.n_Store_costs) (ja1 (je_fld (jv 1) rfl T.c_Store T.n_Store_ends))))) (Nat.le_of_ble_eq_true rfl)))) hd) sc_law_orders.nd)
    (js_cons (jset 4 (m := mStore K (farD d)) (je_fzI (jo_makeH (i := farD d) G3 hr (by omega) (ja_cons (je_slS je_str (by decide) (je_lenS (jv 2) (by omega) T.b_len)) (ja_cons (je_ix (jpv 3) (i := 1) (m := mLs d.begins) je_int rfl) (ja_cons (je_ix (jpv 3) (i := 2) (m := mLc d.costs) je_int rfl) (ja1 (je_ix (jpv 3) (i := 3) (m := mLs d.ends) je_int rfl))))) hfd)) sc_law_orders.nd)
    (js_cons (jset 5 (m := mGate K (farS d.asks) (far0 d)) (je_fzI (jo_makeH (i := (farS d.asks, far0 d)) G4 hr (by omega) (ja_cons (je_slS je_str (by decide) (je_lenS (jv 2) (by omega) T.b_len)) (ja1 (je_of (t := mL [mL (List.replicate (d.asks.length : Int).toNat (mInt 0))]) (je_fz (jo_lst (ja1 (je_fz (jo_rep (je_fzl (jo_lst (ja1 je_int) (Nat.le_of_ble_eq_true rfl))) (je_lenS (jv 2) (by omega) T.b_len) (by omega) (by omega)))) (Nat.le_of_ble_eq_true rfl))) ?_))) hgt)) sc_law_orders.nd)
    (js_cons (jset 6 (je_ixR (k := 7) (ms := oddL) (jp_of (je_fz (jo_lst (ja_cons je_none (ja_cons (je_fz (jo_lst (ja_cons je_int (ja1 je_int)) (Nat.le_of_ble_eq_true rfl))) (ja_cons (je_fz (jo_lst ja_nil (Nat.zero_le _))) (ja_cons (je_fz (jo_lst (ja1 je_bool) (Nat.le_of_ble_eq_true rfl))) (ja_cons (je_fz (jo_lst (ja1 je_str) (Nat.le_of_ble_eq_true rfl))) (ja_cons je_int (ja1 je_str))))))) (Nat.le_of_ble_eq_true rfl)))) (je_callSB (i := 7) 0 G1 hr (by omega) (ja1 je_int) ⟨by decide, by decide⟩) (by decide)) sc_law_orders.nd)
    (js_exV (p := fun j : Nat => j < oddL.length) (f := fun j => oddL.getD j mTrue) 6 fun j1 hj1 => ?_)))), .rt, rfl⟩
  · rw [Int.toNat_natCast]
    show mL [mL _] = mL [mL (List.map mOpt (List.replicate d.asks.length (some 0)))]
    rw [List.map_replicate]
    rfl
  obtain ⟨o1, zo, o2, o3⟩ := odd_thg j1 hj1
  generalize oddL.getD j1 mTrue = om at *
  refine js_cons (jset 7 (je_ixR (k := 6) (ms := badL d.asks.length) (jp_of (je_fz (jo_lst (ja_cons (je_of (je_fz (jo_rep (je_fzl (jo_lst (ja1 je_int) (Nat.le_of_ble_eq_true rfl))) (je_add (je_lenS (jv 2) (by omega) T.b_len) je_int) (by omega) (by omega))) ?_)
      (ja_cons je_int (ja_cons (je_of (je_fz (jo_rep (je_fzl (jo_lst (ja1 je_bool) (Nat.le_of_ble_eq_true rfl))) (je_lenS (jv 2) (by omega) T.b_len) (by omega) (by omega))) ?_) (ja_cons (je_of (je_mulS je_str (je_lenS (jv 2) (by omega) T.b_len) (by omega) (by omega) (by decide)) ?_) (ja_cons (je_of (je_fz (jo_rep (je_fzl (jo_lst (ja1 je_none) (Nat.le_of_ble_eq_true rfl))) (je_lenS (jv 2) (by omega) T.b_len) (by omega) (by omega))) ?_) (ja1 (je_fzD jo_inew))))))) (Nat.le_of_ble_eq_true rfl)))) (je_callSB (i := 6) 0 G1 hr (by omega) (ja1 je_int) ⟨by decide, by decide⟩) (by exact Int.le_refl 6)) sc_law_orders.nd)
    (js_exV (p := fun j : Nat => j < (badL d.asks.length).length) (f := fun j => (badL d.asks.length).getD j mTrue) 7 fun j2 hj2 => ?_)
  · rw [show ((d.asks.length : Int) + 1).toNat = d.asks.length + 1 by omega]
  · rw [Int.toNat_natCast]
  · rw [Int.toNat_natCast]
  · rw [Int.toNat_natCast]
  obtain ⟨⟨b1, zb, b2, b3⟩, b4⟩ := bad_thg hs.1 hs.2 j2 hj2
  generalize (badL d.asks.length).getD j2 mTrue = bm at *
  have t2 : TlsX K (mT [mStore K d, mStore K (farD d)]) [d, farD d] := ⟨⟨.inr rfl, Nat.le_succ 1⟩, 1, Nat.lt_succ_self 1, a3⟩
  have t1 : ∀ {m : Mp}, SeqOf m [mStore K d] → TlsS K m [d] := fun h => ⟨⟨h, Nat.le_refl 1⟩, fun x hx => by rw [List.mem_singleton.mp hx]; rfl⟩
  exact js_weakR (js_cons (js_if (t := false) (jt_of (jt_neS (t := "asks") (je_callG (i := ⟨⟨mT [mStore K d, mStore K (farD d)], om, bm, mGate K (farS d.asks) (far0 d), cUL K, "word", mStr "asks"⟩, "asks"⟩) G5 (by exact hG) hr (by omega) (ja_cons (je_tup (ja_cons (jv 1) (ja1 (jv 4))) (Nat.le_of_ble_eq_true rfl)) (ja_cons (jv 6) (ja_cons (jv 7) (ja1 (jv 5))))) (.word (.asks t2))) je_str) (by rw [decide_eq_true rfl]; rfl)) (fun z => by cases z) fun _ => js_nil)
    (js_cons (js_if (t := false) (jt_of (jt_neS (je_callG (i := ⟨⟨mT [mStore K d], om, bm, mGate K (farS d.asks) (far0 d), cBF K, "thing", om⟩, "factors " ++ zo⟩) G5 (by exact hG) hr (by omega) (ja_cons (je_tup (ja1 (jv 1)) (Nat.le_of_ble_eq_true rfl)) (ja_cons (jv 6) (ja_cons (jv 7) (ja1 (jv 5))))) (.facs (.facs (t1 (.inr rfl)) o1) o2 o3)) (je_addS je_str (je_repr o2 (by exact hG) (by exact hu20) (jv 6) T.b_repr) (by show 8 + zo.length ≤ sizeLine; omega))) (by rw [decide_eq_true rfl]; rfl)) (fun z => by cases z) fun _ => js_nil)
    (js_cons (js_if (t := false) (jt_of (jt_neS (je_callG (i := ⟨⟨mT [mStore K d], mL [mInt 1], bm, mGate K (farS d.asks) (far0 d), cBC K, "thing", bm⟩, "counts " ++ zb⟩) G5 (by exact hG) hr (by omega) (ja_cons (je_tup (ja1 (jv 1)) (Nat.le_of_ble_eq_true rfl)) (ja_cons (je_fz (jo_lst (ja1 je_int) (Nat.le_of_ble_eq_true rfl))) (ja_cons (jv 7) (ja1 (jv 5))))) (.cnts (.cnts (ds := [d]) (fs := [1]) (t1 (.inr rfl)) (.inl rfl) rfl b1 b4 (by show d.asks.length ≤ 1000; omega)) b2 b3)) (je_addS je_str (je_repr b2 (by exact hG) (by exact hu20) (jv 7) T.b_repr) (by show 7 + zb.length ≤ sizeLine; omega))) (by rw [decide_eq_true rfl]; rfl)) (fun z => by cases z) fun _ => js_nil)
    (js_one (js_ret (je_of (je_eqS (t := "gate") (je_callG (i := ⟨⟨mL [mStore K d], mT [mInt 1], mNone, mGate K (farS d.asks) (far0 d), cUL K, "word", mStr "gate"⟩, "gate"⟩) G5 (by exact hG) hr (by omega) (ja_cons (je_fz (jo_lst (ja1 (jv 1)) (Nat.le_of_ble_eq_true rfl))) (ja_cons (je_tup (ja1 je_int) (Nat.le_of_ble_eq_true rfl)) (ja_cons je_none (ja1 (jv 5))))) (.word (.gate (ds := [d]) (fs := [1]) (t1 (.inl rfl)) (.inr rfl) rfl ⟨hs.1, by show d.asks.length ≤ 1000; omega⟩ a3))) je_str) (by rw [decide_eq_true rfl]))))))) (by repeat (first | exact Le.nil | refine Le.same ?_ | refine Le.drop ?_))
end Afw

/-! text D36 -/
set_option Elab.async false
set_option linter.all false
set_option maxRecDepth 100000
set_option maxHeartbeats 4000000
namespace Afw
open PySem L2 PySem.Spec PyProof.Rows Jd
/-! ### the plain law: walks over node numbers and over spots tell the same -/
abbrev nodeOf (c : Cl) (T n : Nat) : List Int := (Afw.spB c T).1.getD n []
inductive Same (c : Cl) (T : Nat) : Option (Nat × Int) → Option (List Int × Int) → Prop where
  | nn : Same c T none none
  | ss {n : Nat} {t : Int} (h : n < T) : Same c T (some (n, t)) (some (nodeOf c T n, t))
theorem Same.of {c : Cl} {T n : Nat} {t : Int} {s : List Int} (h : n < T) (e : nodeOf c T n = s) : Same c T (some (n, t)) (some (s, t)) := by
  subst e
  exact .ss h
theorem fold_same {c : Cl} {T : Nat} {ch : Str} : ∀ (mv : List Mv) (ns : List (List Int)) (az : Option (Nat × Int)) (af : Option (List Int × Int)), Same c T az af → (∀ a s, (nodesF ns mv)[a]? = some s → a < T ∧ nodeOf c T a = s) →
    Same c T ((itF ns mv).foldl (stepG c.asks ch) az) (mv.foldl (stepF c ch) af)
  | [], _, _, _, h, _ => h
  | m :: r, ns, az, af, h, hn => by
    show Same c T ((itF (putX ns m.2.1) r).foldl (stepG c.asks ch) (stepG c.asks ch az (m.1, atX ns m.2.1, m.2.2))) (r.foldl (stepF c ch) (stepF c ch af m))
    refine fold_same r (putX ns m.2.1) _ _ ?_ hn
    unfold stepG stepF
    by_cases z : chrZ c.asks m.1 = ch
    · rw [if_pos z, if_pos (show chrA c m.1 = ch from z)]
      obtain ⟨h1, h2⟩ := atX_lt (xs := ns) (x := m.2.1)
      obtain ⟨k1, k2⟩ := hn (atX ns m.2.1) m.2.1 (by
        show (nodesF (putX ns m.2.1) r)[_]? = _
        rw [nodesF_old r _ h1, h2])
      exact .of k1 k2
    · rw [if_neg z, if_neg (show ¬ chrA c m.1 = ch from z)]
      exact h
theorem step_same {c : Cl} {T : Nat} (h : WebEnd c T) {n : Nat} (hn : n < T) (ch : Str) : Same c T (stepZ c.asks ch ((Afw.spB c T).2.getD n [])) (stepOn c ch (movesT c (nodeOf c T n) c.asks.length)) := by
  unfold stepZ stepOn nodeOf
  rw [getD_of (spB_mv c hn), spB_node (Nat.le_of_lt hn) (h.run hn)]
  refine fold_same _ _ _ _ .nn fun a s ha => ?_
  have hlt : a < (Afw.spB c (n + 1)).1.length := (List.getElem?_eq_some_iff.mp (show (Afw.spB c (n + 1)).1[a]? = some s from ha)).1
  have hle : (Afw.spB c (n + 1)).1.length ≤ T := by
    have := spB_mono (c := c) (show n + 1 ≤ T from hn)
    rw [h.e] at this
    exact this
  refine ⟨by omega, ?_⟩
  show (Afw.spB c T).1.getD a [] = s
  rw [List.getD_eq_getElem?_getD, spB_old c (show n + 1 ≤ T from hn) hlt, show (Afw.spB c (n + 1)).1[a]? = some s from ha]
  rfl
theorem go_same {c : Cl} {T : Nat} (h : WebEnd c T) (ch : Str) {oz : Option (Nat × Int)} {os : Option (List Int × Int)} (hs : Same c T oz os) : Same c T (goZ c.asks ch (Afw.spB c T).2 oz) (goOn c ch os) := by
  cases hs with
  | nn => exact .nn
  | ss hn =>
    rename_i n t
    have st := step_same h hn ch
    unfold goZ goOn
    show Same c T (match stepZ c.asks ch ((Afw.spB c T).2.getD n []) with
      | none => none
      | some (n', g) => some (n', t + g)) (match stepOn c ch (movesT c (nodeOf c T n) c.asks.length) with
      | none => none
      | some (s', g) => some (s', t + g))
    generalize stepZ c.asks ch ((Afw.spB c T).2.getD n []) = a at st
    generalize stepOn c ch (movesT c (nodeOf c T n) c.asks.length) = b at st
    cases st with
    | nn => exact .nn
    | ss h1 => exact .ss h1
theorem led_same {c : Cl} {T : Nat} (h : WebEnd c T) {n : Nat} (hn : n < T) (z : Str) : ∀ i, Same c T (ledZ c.asks (Afw.spB c T).2 n z i) (behT c (nodeOf c T n) z i)
  | 0 => .ss hn
  | i + 1 => go_same h _ (led_same h hn z i)
theorem node0 {c : Cl} {T : Nat} (h : WebEnd c T) (h0 : 0 < T) : nodeOf c T 0 = sp0 c := spB_node (Nat.le_of_lt h0) (h.run h0)
theorem web_pos {c : Cl} {T : Nat} (h : WebEnd c T) : 0 < T := by
  have e := h.e
  cases T with
  | zero => exact absurd (show (1 : Nat) = 0 from e) (by decide)
  | succ T => omega
theorem node_inj {c : Cl} {T : Nat} (h : WebEnd c T) {i j : Nat} (hi : i < T) (hj : j < T) : nodeOf c T i = nodeOf c T j ↔ i = j := by
  refine ⟨fun e => ?_, fun e => by rw [e]⟩
  have nd := spB_nodup c T
  have li : i < (Afw.spB c T).1.length := by rw [h.e]; exact hi
  have lj : j < (Afw.spB c T).1.length := by rw [h.e]; exact hj
  unfold nodeOf at e
  rw [List.getD_eq_getElem?_getD, List.getD_eq_getElem?_getD, List.getElem?_eq_getElem li, List.getElem?_eq_getElem lj] at e
  have e : (Afw.spB c T).1[i] = (Afw.spB c T).1[j] := e
  rcases Nat.lt_trichotomy i j with z | z | z
  · exact absurd e (List.pairwise_iff_getElem.mp nd i j li lj z)
  · exact z
  · exact absurd e.symm (List.pairwise_iff_getElem.mp nd j i lj li z)
/-- what the law holds due -/
def dueZ (asks : Str) (mvs : List (List Ml)) (z y : Str) : Bool := match ledZ asks mvs 0 z z.cps.size with
  | none => false
  | some (n, _) => match ledZ asks mvs n y y.cps.size with
    | none => false
    | some (n', g) => decide ((n' : Int) = n) && decide (0 < g)
theorem due_judged {c : Cl} {T : Nat} (h : WebEnd c T) (z y : Str) : dueZ c.asks (Afw.spB c T).2 z y = judged c z y := by
  have h0 := web_pos h
  have s1 := led_same h h0 z z.cps.size
  rw [node0 h h0] at s1
  unfold dueZ judged
  generalize ledZ c.asks (Afw.spB c T).2 0 z z.cps.size = a1 at s1
  generalize behT c (sp0 c) z z.cps.size = b1 at s1
  cases s1 with
  | nn => rfl
  | ss hn =>
    rename_i n t
    have s2 := led_same h hn y y.cps.size
    show (match ledZ c.asks (Afw.spB c T).2 n y y.cps.size with
      | none => false
      | some (n', g) => decide ((n' : Int) = n) && decide (0 < g)) = (match behT c (nodeOf c T n) y y.cps.size with
      | none => false
      | some (s', g) => decide (s' = nodeOf c T n) && decide (0 < g))
    generalize ledZ c.asks (Afw.spB c T).2 n y y.cps.size = a2 at s2
    generalize behT c (nodeOf c T n) y y.cps.size = b2 at s2
    cases s2 with
    | nn => rfl
    | ss hm =>
      rename_i m g
      show (decide ((m : Int) = n) && decide (0 < g)) = (decide (nodeOf c T m = nodeOf c T n) && decide (0 < g))
      congr 1
      by_cases e : m = n
      · rw [e, decide_eq_true rfl, decide_eq_true rfl]
      · rw [decide_eq_false (by omega), decide_eq_false fun q => e ((node_inj h hm hn).mp q)]
/-- the moves are in order -/
theorem web_ml {c : Cl} {T : Nat} (h : WebEnd c T) : MlOk c.asks (Afw.spB c T).2 := ⟨fun it hit m hm => by
  obtain ⟨i, hi, rfl⟩ := List.getElem_of_mem hit
  have hi' : i < T := by rw [spB_mvs] at hi; exact hi
  have e := spB_mv c hi'
  rw [List.getElem?_eq_getElem hi] at e
  have e := Option.some.inj e
  rw [e] at hm
  rw [spB_mvs]
  obtain ⟨j, hj, rfl⟩ := List.getElem_of_mem hm
  rw [itF_len] at hj
  obtain ⟨a, q1, _, q3⟩ := itF_at (movesT c ((Afw.spB c i).1.getD i []) c.asks.length) (Afw.spB c i).1 (List.getElem?_eq_getElem hj)
  have hmv := mv_mem (List.getElem_mem hj)
  rw [List.getElem?_eq_getElem (by rw [itF_len]; exact hj)] at q1
  rw [Option.some.inj q1]
  refine ⟨hmv.1, Nat.lt_of_lt_of_le q3 ?_⟩
  have := spB_mono (c := c) (show i + 1 ≤ T from hi')
  rw [h.e] at this
  exact this⟩
theorem web_it {c : Cl} {T : Nat} : ∀ it ∈ (Afw.spB c T).2, it.length ≤ c.asks.length := fun it hit => by
  obtain ⟨i, hi, rfl⟩ := List.getElem_of_mem hit
  have hi' : i < T := by rw [spB_mvs] at hi; exact hi
  have := web_len (c := c) hi'
  rw [List.getD_eq_getElem?_getD, List.getElem?_eq_getElem hi] at this
  exact this
end Afw

/-! text D37 -/
set_option Elab.async false
set_option linter.all false
set_option maxRecDepth 100000
set_option maxHeartbeats 8000000
namespace Afw
open PySem L2 PySem.Spec PyProof.Rows Jd
variable {P : Program} {w : World} {K : PySem.W.Frag} {mg : Str → Option Value} {base : Heap}
/-! ### law: the turns -/
/-- what stands when the turns begin -/
structure LwI where
  j : JrD
  T : Nat
  ns : List Int
abbrev LwI.z (i : LwI) : Str := (i.j.ds.getD 0 d0).asks
abbrev LwI.mv (i : LwI) : List (List Ml) := (Afw.spB i.j.cl i.T).2
structure LwOk (i : LwI) : Prop where
  j : JrOk i.j.ds i.j.fs i.j.cs i.j.gs
  w : WebEnd i.j.cl i.T
  a : i.z ∈ askL
theorem LwOk.e {i : LwI} (h : LwOk i) : SpEnd i.j.cl i.T := ⟨h.w.e, fun k hk => h.w.run hk⟩
abbrev lwS (K : PySem.W.Frag) (i : LwI) : List Jd.Slot := [.val (mLs i.ns), .own oSrc, .val (mStr i.z), .any, .any, .val (mLs i.j.fs), .val (mLs i.j.cs), .any, .any, .val (mMls i.mv), .val (mT (i.j.ds.map (mStore K))), .val (mGate K i.z i.j.gs), .any, .any, .any, .any, .any, .any, .any, .any, .any, .any, .any]
theorem row_of {asks : Str} {cs : List Nat} (h : ∀ c ∈ cs, c ∈ asks.cps.toList) (hl : cs.length ≤ 2000) : RowR asks (mStr ⟨cs.toArray⟩) true := by
  have := RowR.str (asks := asks) ⟨cs.toArray⟩ (by rw [txt_len]; omega)
  have e : (decide ((⟨cs.toArray⟩ : Str).length ≤ 2000) && (List.range (⟨cs.toArray⟩ : Str).cps.size).all fun i => decide ((⟨cs.toArray⟩ : Str).cps.getD i 0 ∈ asks.cps.toList)) = true := by
    rw [decide_eq_true (by rw [txt_len]; exact hl), Bool.true_and]
    refine all_range.mpr fun i hi => decide_eq_true ?_
    have hi' : i < cs.length := by simpa using hi
    show (cs.toArray).getD i 0 ∈ _
    rw [Array.getD_eq_getD_getElem?, List.getElem?_toArray, List.getElem?_eq_getElem hi']
    exact h _ (List.getElem_mem _)
  rw [e] at this
  exact this
theorem txt_ne {cs : List Nat} (h : 1 ≤ cs.length) : (⟨cs.toArray⟩ : Str) ≠ ⟨#[]⟩ := fun q => by
  have := congrArg (fun z : Str => z.length) q
  rw [txt_len] at this
  have this : cs.length = 0 := this
  omega
theorem lw_turn (T : Tx K mg) (G1 : H_law_draw P w K mg base) (G2 : H_law_row P w K mg base) (G3 : H_law_led_to P w K mg base) (G4 : H_judge_ring P w K mg base) {i : LwI} (hi : LwOk i) {cdv : Value} {A : Around} {outer : List Env} {s : Shared} {H : Hp} {E : XK} {e : En} {t : Int}
    (hr : Room 11 (A.deeper (envOfC "law" (defScope (top 102)) s.heap.objs.size (He.ga K "law") cdv))) :
    JSs (cxOf CX0 P w K mg base N_law "law" (defScope (top 102)) (He.ga K "law") cdv A outer s H E).nox e (forBody ((defBody (top 102)).getD 16 (.Pass ⟨0, 0, 0, 0⟩))) ((lwS K i).set 12 (.val (mInt t))) (.nx (lwS K i)) := by
  obtain ⟨⟨ds, fs, cs, gs⟩, N, ns⟩ := i
  obtain ⟨hj, hw, ha⟩ := hi
  have hcl : ClOk (JrD.cl ⟨ds, fs, cs, gs⟩) := clOf_ok hj
  have hz := askOk_size hcl.a
  have hE : SpEnd (JrD.cl ⟨ds, fs, cs, gs⟩) N := ⟨hw.e, fun k hk => hw.run hk⟩
  have hN : N ≤ 900 := hw.n
  have h0 := web_pos hw
  have hml := web_ml hw
  have hit : ∀ it ∈ (Afw.spB (JrD.cl ⟨ds, fs, cs, gs⟩) N).2, it.length ≤ 1000 := fun it h => by have := web_it it h; omega
  have hmv := spB_mvs (JrD.cl ⟨ds, fs, cs, gs⟩) N
  have hdue := due_judged hw
  have hza : LwI.z ⟨⟨ds, fs, cs, gs⟩, N, ns⟩ = (JrD.cl ⟨ds, fs, cs, gs⟩).asks := rfl
  have hled := fun (n : Nat) (hn : n < N) (z : Str) (k : Nat) (m : Nat) (t : Int) => ledZ_lt hml (n := n) (by rw [hmv]; exact hn) (z := z) k m t
  show JSs _ _ _ [_, _, .val (mStr (JrD.cl ⟨ds, fs, cs, gs⟩).asks), _, _, _, _, _, _, .val (mMls (Afw.spB (JrD.cl ⟨ds, fs, cs, gs⟩) N).2), _, .val (mGate K (JrD.cl ⟨ds, fs, cs, gs⟩).asks gs), _, _, _, _, _, _, _, _, _, _, _] (.nx [_, _, .val (mStr (JrD.cl ⟨ds, fs, cs, gs⟩).asks), _, _, _, _, _, _, .val (mMls (Afw.spB (JrD.cl ⟨ds, fs, cs, gs⟩) N).2), _, .val (mGate K (JrD.cl ⟨ds, fs, cs, gs⟩).asks gs), _, _, _, _, _, _, _, _, _, _, _])
  have hjr := fun z y b (h : JudR (JrD.cl ⟨ds, fs, cs, gs⟩) z y b) => (⟨hj, hE, hN, h⟩ : JrOk ds fs cs gs ∧ SpEnd (JrD.cl ⟨ds, fs, cs, gs⟩) N ∧ N ≤ 900 ∧ JudR (JrD.cl ⟨ds, fs, cs, gs⟩) z y b)
  have hdsS : (ds.getD 0 d0).asks = (JrD.cl ⟨ds, fs, cs, gs⟩).asks := rfl
  generalize hc : JrD.cl ⟨ds, fs, cs, gs⟩ = c at *
  refine js_cons (jset 13 (m := mRw c.asks 1 4) (je_addRw (z := c.asks) (l1 := 0) (h1 := 3) (l2 := 1) (h2 := 1) (je_weak (je_callS (i := (c.asks, 3)) 1 G2 hr (by omega) (ja_cons (jv 2) (ja1 je_int)) ⟨hz.1, by show c.asks.length ≤ 1000; omega, by show (0 : Int) ≤ 3; decide, by show (3 : Int) < 1000; decide⟩) rw_row) (je_weak (je_ixSR (k := c.asks.length) (jv 2) (je_callS (i := (c.asks.length : Int)) 1 G1 hr (by omega) (ja1 (je_lenS (jv 2) (by omega) T.b_len)) ⟨by omega, by omega⟩) (by omega) (Int.le_refl _)) rw_chr) (by decide)) sc_law.nd)
    (js_exV (p := fun cs : List Nat => 1 ≤ cs.length ∧ cs.length ≤ 4 ∧ ∀ x ∈ cs, x ∈ c.asks.cps.toList) (f := fun cs => mStr ⟨cs.toArray⟩) 13 fun r1 hr1 => ?_)
  refine js_cons (jset 14 (m := mRw c.asks 0 38) (je_addRw (z := c.asks) (l1 := 0) (h1 := 6) (l2 := 0) (h2 := 32) (je_weak (je_callS (i := (c.asks, 6)) 1 G2 hr (by omega) (ja_cons (jv 2) (ja1 je_int)) ⟨hz.1, by show c.asks.length ≤ 1000; omega, by show (0 : Int) ≤ 6; decide, by show (6 : Int) < 1000; decide⟩) rw_row) (je_mulRw (P := fun k => 0 ≤ k ∧ k < 9) (jv 13) (je_callS (i := 9) 1 G1 hr (by omega) (ja1 je_int) ⟨by decide, by decide⟩) hr1.2.2 (by omega) (fun k hk => ⟨hk.1, by omega, Nat.zero_le _, Nat.le_trans (Nat.mul_le_mul (show k.toNat ≤ 8 by omega) hr1.2.1) (by decide)⟩)) (by decide)) sc_law.nd)
    (js_exV (p := fun cs : List Nat => 0 ≤ cs.length ∧ cs.length ≤ 38 ∧ ∀ x ∈ cs, x ∈ c.asks.cps.toList) (f := fun cs => mStr ⟨cs.toArray⟩) 14 fun r2 hr2 => ?_)
  refine js_cons (jset 15 (m := mRw c.asks 1 12) (je_mulRw (P := fun k => 1 ≤ k ∧ k < 1 + 3) (jv 13) (je_add1R je_int (je_callS (i := 3) 1 G1 hr (by omega) (ja1 je_int) ⟨by decide, by decide⟩)) hr1.2.2 (by omega) (fun k hk => ⟨by omega, by omega, Nat.le_trans (by decide : 1 ≤ 1 * 1) (Nat.mul_le_mul (show 1 ≤ k.toNat by omega) hr1.1), Nat.le_trans (Nat.mul_le_mul (show k.toNat ≤ 3 by omega) hr1.2.1) (by decide)⟩)) sc_law.nd)
    (js_exV (p := fun cs : List Nat => 1 ≤ cs.length ∧ cs.length ≤ 12 ∧ ∀ x ∈ cs, x ∈ c.asks.cps.toList) (f := fun cs => mStr ⟨cs.toArray⟩) 15 fun r3 hr3 => ?_)
  have hb := hdue ⟨r2.toArray⟩ ⟨r3.toArray⟩
  have j1 : JudR c (mStr ⟨r2.toArray⟩) (mStr ⟨r3.toArray⟩) (judged c ⟨r2.toArray⟩ ⟨r3.toArray⟩) := .rows (row_of hr2.2.2 (by omega)) (row_of hr3.2.2 (by omega)) (txt_ne hr3.1)
  rw [← hb] at j1
  generalize (⟨r2.toArray⟩ : Str) = stem at *
  generalize (⟨r3.toArray⟩ : Str) = ring at *
  refine js_cons (jset 16 je_bool sc_law.nd) (js_cons (jset 17 (m := mRz (ledZ c.asks (Afw.spB c N).2 0 stem stem.cps.size)) (je_callH (i := (c.asks, (Afw.spB c N).2, 0, stem)) G3 hr (by omega) (ja_cons (jv 2) (ja_cons (jv 9) (ja_cons je_int (ja1 (jv 14))))) ⟨hml, by show 0 < (Afw.spB c N).2.length; rw [hmv]; exact h0, by show c.asks.length ≤ 1000; omega, by show (Afw.spB c N).2.length ≤ 1000; rw [hmv]; omega, hit⟩) sc_law.nd) ?_)
  refine js_cons (ss1 := [.val (mLs ns), .own oSrc, .val (mStr c.asks), .any, .any, .val (mLs fs), .val (mLs cs), .any, .any, .val (mMls (Afw.spB c N).2), .val (mT (ds.map (mStore K))), .val (mGate K c.asks gs), .any, .any, .val (mStr stem), .val (mStr ring), .val (mBool (dueZ c.asks (Afw.spB c N).2 stem ring)), .any, .any, .any, .any, .any, .any]) ?_
    (js_cons (jset 19 (m := mBool (dueZ c.asks (Afw.spB c N).2 stem ring)) (je_callK (i := ⟨⟨ds, fs, cs, gs⟩, N, mStr stem, mStr ring, dueZ c.asks (Afw.spB c N).2 stem ring⟩) G4 hr (by omega) (ja_cons (jv 10) (ja_cons (jv 5) (ja_cons (jv 14) (ja1 (jv 15))))) (jk_cons (jv 6) (jk_cons (jv 11) jk_nil)) (by
        have := hjr _ _ _ j1
        subst hc
        exact this) (hi := by
        show [_, _, _, _, _, mGate K (ds.getD 0 d0).asks gs] = _
        rw [hdsS]
        rfl)) sc_law.nd)
    (js_weak (js_one (js_if (t := false) (jt_of (jt_w (jw_or (jt_neB (je_isB (jv 19)) (jv 16)) fun _ => jw_one (jt_eqB (je_isB (jv 19)) (jv 16)))) ?_) (fun z => by cases z) fun _ => js_nil)) (by repeat (first | exact Le.nil | refine Le.same ?_ | refine Le.drop ?_))))
  · unfold dueZ
    cases q1 : ledZ c.asks (Afw.spB c N).2 0 stem stem.cps.size with
    | none => exact js_weakS (js_if (t := !true) (jt_notN (jv 17) nonB_none) (fun z => by cases z) fun _ => js_nil) (by repeat (first | exact Le.nil | refine Le.same ?_ | refine Le.drop ?_))
    | some p1 =>
      obtain ⟨n1, t1⟩ := p1
      have hn1 : n1 < N := by have := hled 0 h0 stem stem.cps.size n1 t1 q1; rw [hmv] at this; exact this
      refine js_weakS (js_if (r := .nx [.val (mLs ns), .own oSrc, .val (mStr c.asks), .any, .any, .val (mLs fs), .val (mLs cs), .any, .any, .val (mMls (Afw.spB c N).2), .val (mT (ds.map (mStore K))), .val (mGate K c.asks gs), .any, .any, .val (mStr stem), .val (mStr ring), .val (mBool (match ledZ c.asks (Afw.spB c N).2 n1 ring ring.cps.size with
          | none => false
          | some (n', g) => decide ((n' : Int) = n1) && decide (0 < g))), .any, .any, .any, .any, .any, .any]) (t := !false) (jt_notN (jv 17) nonB_T) (fun _ => js_cons (jset 18 (m := mRz (ledZ c.asks (Afw.spB c N).2 n1 ring ring.cps.size)) (je_callH (i := (c.asks, (Afw.spB c N).2, n1, ring)) G3 hr (by omega) (ja_cons (jv 2) (ja_cons (jv 9) (ja_cons (je_ixT (ms := [mNat n1, mInt t1]) (i := 0) (m := mNat n1) (jv 17) je_int rfl) (ja1 (jv 15))))) ⟨hml, by show n1 < (Afw.spB c N).2.length; rw [hmv]; exact hn1, by show c.asks.length ≤ 1000; omega, by show (Afw.spB c N).2.length ≤ 1000; rw [hmv]; omega, hit⟩) sc_law.nd) ?_) fun z => by cases z) (by repeat (first | exact Le.nil | refine Le.same ?_ | refine Le.drop ?_))
      cases q2 : ledZ c.asks (Afw.spB c N).2 n1 ring ring.cps.size with
      | none => exact js_weak (js_one (jset 16 (m := mBool false) (je_of (je_and (t := !true) (u := true) (je_notN (jv 18) nonB_none) fun z => by cases z) rfl) sc_law.nd)) (by repeat (first | exact Le.nil | refine Le.same ?_ | refine Le.drop ?_))
      | some p2 =>
        obtain ⟨n2, t2⟩ := p2
        exact js_weak (js_one (jset 16 (m := mBool (decide ((n2 : Int) = n1) && decide (0 < t2))) (je_of (je_and (t := !false) (je_notN (jv 18) nonB_T) fun _ => je_and (je_eqI (je_ixT (ms := [mNat n2, mInt t2]) (i := 0) (m := mNat n2) (jv 18) je_int rfl) (je_ixT (ms := [mNat n1, mInt t1]) (i := 0) (m := mNat n1) (jv 17) je_int rfl)) fun _ => je_one (je_gtI (je_ixT (ms := [mNat n2, mInt t2]) (i := 1) (m := mInt t2) (jv 18) je_int rfl) je_int)) (by rfl)) sc_law.nd)) (by repeat (first | exact Le.nil | refine Le.same ?_ | refine Le.drop ?_))
  · cases dueZ c.asks (Afw.spB c N).2 stem ring <;> rfl
end Afw

/-! text D38 -/
set_option Elab.async false
set_option linter.all false
set_option maxRecDepth 100000
set_option maxHeartbeats 8000000
namespace Afw
open PySem L2 PySem.Spec PyProof.Rows Jd
variable {P : Program} {w : World} {K : PySem.W.Frag} {mg : Str → Option Value} {base : Heap}
/-! ### law: behind the turns -/
abbrev oddR (z : Str) : List Mp := [mStr "z", mNone, mInt 5, mL [mStr "a"], mStr (z ++ " "), mT [], mBool true]
theorem row_bad {asks z : Str} (hl : z.length ≤ 100000) (h : (decide (z.length ≤ 2000) && (List.range z.cps.size).all fun i => decide (z.cps.getD i 0 ∈ asks.cps.toList)) = false) : RowR asks (mStr z) false := by
  have := RowR.str (asks := asks) z hl
  rw [h] at this
  exact this
theorem odd1 : ∀ z ∈ askL, (decide (("z" : Str).length ≤ 2000) && (List.range ("z" : Str).cps.size).all fun i => decide (("z" : Str).cps.getD i 0 ∈ z.cps.toList)) = false := by decide +kernel
theorem odd2 : ∀ z ∈ askL, (z ++ " ").length ≤ 100000 ∧ (decide ((z ++ " ").length ≤ 2000) && (List.range (z ++ " ").cps.size).all fun i => decide ((z ++ " ").cps.getD i 0 ∈ z.cps.toList)) = false := by decide +kernel
theorem odd_row {z : Str} (hz : z ∈ askL) : ∀ j, j < (oddR z).length → RowR z ((oddR z).getD j mTrue) false
  | 0, _ => row_bad (by decide +kernel) (odd1 z hz)
  | 1, _ => .no tyM_none (by decide +kernel)
  | 2, _ => .no tyM_int (by decide +kernel)
  | 3, _ => .no tyM_L (by decide +kernel)
  | 4, _ => row_bad (odd2 z hz).1 (odd2 z hz).2
  | 5, _ => .no tyM_T (by decide +kernel)
  | 6, _ => .no tyM_bool (by decide +kernel)
  | j + 7, h => absurd h (by show ¬ j + 7 < 7; omega)
theorem row_long {asks : Str} {cc : Nat} : RowR asks (mStr (repS ⟨#[cc]⟩ (2001 : Int).toNat)) false := by
  have len : (repS ⟨#[cc]⟩ (2001 : Int).toNat).length = 2001 := by
    rw [show (⟨#[cc]⟩ : Str) = ⟨[cc].toArray⟩ from rfl, txt_rep, txt_len]
    simp
  refine row_bad (by rw [len]; decide) ?_
  rw [len]
  rfl
abbrev any23 : List Jd.Slot := [.any, .any, .any, .any, .any, .any, .any, .any, .any, .any, .any, .any, .any, .any, .any, .any, .any, .any, .any, .any, .any, .any, .any]
theorem lw_tail (T : Tx K mg) (G1 : H_law_draw P w K mg base) (G4 : H_judge_ring P w K mg base) (G5 : G_law_orders P w K mg base) {i : LwI} (hi : LwOk i) {cdv : Value} {A : Around} {outer : List Env} {s : Shared} {H : Hp} {E : XK} {e : En}
    (hG : (A.deeper (envOfC "law" (defScope (top 102)) s.heap.objs.size (He.ga K "law") cdv)).guards = some []) (hr : Room 11 (A.deeper (envOfC "law" (defScope (top 102)) s.heap.objs.size (He.ga K "law") cdv))) :
    JSs (cxOf CX0 P w K mg base N_law "law" (defScope (top 102)) (He.ga K "law") cdv A outer s H E).nox e ((defBody (top 102)).drop 17) (lwS K i) (.rt (mBool true) any23) := by
  obtain ⟨⟨ds, fs, cs, gs⟩, N, ns⟩ := i
  obtain ⟨hj, hw, ha⟩ := hi
  have hn := hj.n
  have h0 := hj.r _ (getD_mem (d := d0) hn.1)
  have hz : 1 ≤ (ds.getD 0 d0).asks.length ∧ (ds.getD 0 d0).asks.length ≤ 4 := askOk_size h0.1.ok.a
  have hN : N ≤ 900 := hw.n
  have hE : SpEnd (JrD.cl ⟨ds, fs, cs, gs⟩) N := ⟨hw.e, fun k hk => hw.run hk⟩
  have hodd := odd_row (z := (ds.getD 0 d0).asks) ha
  have jr : ∀ {st ri : Mp}, JudR (JrD.cl ⟨ds, fs, cs, gs⟩) st ri false → JrOk ds fs cs gs ∧ SpEnd (JrD.cl ⟨ds, fs, cs, gs⟩) N ∧ N ≤ 900 ∧ JudR (JrD.cl ⟨ds, fs, cs, gs⟩) st ri false := fun h => ⟨hj, hE, hN, h⟩
  have a0 : L2.atI (ds.getD 0 d0).asks.cps.toList 0 = some ((ds.getD 0 d0).asks.cps.toList.getD 0 0) := atI_nat (j := 0) (getD_some (by rw [Array.length_toList]; exact hz.1))
  refine js_cons (jset 20 (je_ixR (k := 7) (ms := oddR (ds.getD 0 d0).asks) (jp_of (je_fz (jo_lst (ja_cons je_str (ja_cons je_none (ja_cons je_int (ja_cons (je_fz (jo_lst (ja1 je_str) (Nat.le_of_ble_eq_true rfl))) (ja_cons (je_addS (jv 2) je_str (Evl.sz_of (by show (ds.getD 0 d0).asks.length + 1 ≤ 100000; omega))) (ja_cons (je_tup ja_nil (Nat.zero_le _)) (ja1 je_bool))))))) (Nat.le_of_ble_eq_true rfl)))) (je_callS (i := 7) 1 G1 hr (by omega) (ja1 je_int) ⟨by decide, by decide⟩) (by exact Int.le_refl 7)) sc_law.nd)
    (js_exV (p := fun j : Nat => j < (oddR (ds.getD 0 d0).asks).length) (f := fun j => (oddR (ds.getD 0 d0).asks).getD j mTrue) 20 fun j1 hj1 => ?_)
  have o1 := hodd j1 hj1
  generalize (oddR (ds.getD 0 d0).asks).getD j1 mTrue = om at *
  exact js_weakR (js_cons (js_if (t := false) (jt_of (jt_notB (je_callK (i := ⟨⟨ds, fs, cs, gs⟩, N, om, mStr (chrC ((ds.getD 0 d0).asks.cps.toList.getD 0 0)), false⟩) G4 hr (by omega) (ja_cons (jv 10) (ja_cons (jv 5) (ja_cons (jv 20) (ja1 (je_ixS (jv 2) je_int (by omega) a0))))) (jk_cons (jv 6) (jk_cons (jv 11) jk_nil)) (jr (.stem o1)))) rfl) (fun z => by cases z) fun _ => js_nil)
    (js_cons (js_if (t := false) (jt_of (jt_notB (je_callK (i := ⟨⟨ds, fs, cs, gs⟩, N, mStr "", om, false⟩) G4 hr (by omega) (ja_cons (jv 10) (ja_cons (jv 5) (ja_cons je_str (ja1 (jv 20))))) (jk_cons (jv 6) (jk_cons (jv 11) jk_nil)) (jr (.ring (z := "") rowR_nil o1)))) rfl) (fun z => by cases z) fun _ => js_nil)
    (js_cons (js_if (t := false) (jt_of (jt_notB (je_callK (i := ⟨⟨ds, fs, cs, gs⟩, N, mStr "", mStr "", false⟩) G4 hr (by omega) (ja_cons (jv 10) (ja_cons (jv 5) (ja_cons je_str (ja1 je_str)))) (jk_cons (jv 6) (jk_cons (jv 11) jk_nil)) (jr (.empty (z := "") rowR_nil)))) rfl) (fun z => by cases z) fun _ => js_nil)
    (js_cons (js_if (t := false) (jt_of (jt_notB (je_callK (i := ⟨⟨ds, fs, cs, gs⟩, N, mStr "", mStr (repS (chrC ((ds.getD 0 d0).asks.cps.toList.getD 0 0)) (2001 : Int).toNat), false⟩) G4 hr (by omega) (ja_cons (jv 10) (ja_cons (jv 5) (ja_cons je_str (ja1 (je_mulS (je_ixS (jv 2) je_int (by omega) a0) je_int (by decide) (by decide) (Nat.le_of_ble_eq_true rfl)))))) (jk_cons (jv 6) (jk_cons (jv 11) jk_nil)) (jr (.ring (z := "") rowR_nil row_long)))) rfl) (fun z => by cases z) fun _ => js_nil)
    (js_one (js_ret (je_callOG (i := ds.getD 0 d0) 1 G5 (by exact hG) hr (by omega) (ja_cons (je_ixF (f := mStore K) (xs := ds) d0 0 (jv 10) je_int rfl hn.1) (ja1 (jv 2))) ⟨h0.1.ok, ha⟩))))))) (by repeat (first | exact Le.nil | refine Le.same ?_ | refine Le.drop ?_))
end Afw

/-! text D39 -/
set_option Elab.async false
set_option linter.all false
set_option maxRecDepth 100000
set_option maxHeartbeats 8000000
namespace Jd
open PySem L2 PySem.Spec PyProof.Rows
/-- an own list of which little is told, frozen, by its items -/
theorem js_exL {α : Type} {X : Cx} {e : En} {ss : List Slot} {body : List Stmt} {r : Res} {N : Nat} {p : α → Prop} {f : α → Mp} (k : Nat) (g : ∀ xs : List α, xs.length = N → (∀ x ∈ xs, p x) → JSs X e body (ss.set k (.val (mL (xs.map f)))) r) (h : ss[k]? = some (.own (oL ((List.range N).map fun _ => mE p f))) := by rfl) : JSs X e body ss r :=
  ⟨fun pins s σ H D I ⟨F, J, K⟩ => by
    obtain ⟨a, F1, _, x1, J1, _⟩ := J.freeze h oL_mL
    have lt : k < ss.length := (List.getElem?_eq_some_iff.mp h).1
    have h1 : (ss.set k (.val (mL ((List.range N).map fun _ => mE p f))))[k]? = some (.val (mL ((List.range N).map fun _ => mE p f))) := by rw [List.getElem?_set_self lt]
    have J2 := J1.sub1 (s' := .val (mE (fun xs : List α => xs.length = N ∧ ∀ x ∈ xs, p x) fun xs => mL (xs.map f))) h1 (.V mL_E)
    rw [List.set_set] at J2
    obtain ⟨xs, ⟨e1, e2⟩, J3⟩ := J2.exV (k := k) (by rw [List.getElem?_set_self lt])
    rw [List.set_set] at J3
    exact (g xs e1 e2).run pins s σ H D I ⟨F1, J3, Res.to_ex x1 K⟩⟩
end Jd
namespace Afw
open PySem L2 PySem.Spec PyProof.Rows Jd
variable {P : Program} {w : World} {K : PySem.W.Frag} {mg : Str → Option Value} {base : Heap}
/-! ### law: up to the turns -/
abbrev H_world12 (P : Program) (w : World) (K : PySem.W.Frag) (mg : Str → Option Value) (base : Heap) : Prop := Has P w K mg base 4 "_law_world" ["_law_source_here", "_law_many", "_law_asks_here", "_law_most"] (Jd.spB (fun z : Str => askOk z = true) (fun _ => oSrc) (fun _ => oSrc) (fun z => [mIE fun i => i = 1 ∨ i = 2, mStr z, mInt 3]) fun z => mWldE z)
theorem world12 (G : H_law_world P w K mg base) : H_world12 P w K mg base := G.imp fun vs H Q E h => by
  obtain ⟨z, hz, F, a, u, us, rfl, hs, hu, hf, hm, hA, q⟩ := h
  match us, hA with
  | [v1, v2, v3], ⟨⟨i, hi, hv1⟩, hv2, hv3, _⟩ =>
    refine ⟨(i.toNat, z, 3), ⟨by show 1 ≤ i.toNat; omega, by show i.toNat ≤ 1000; omega, hz, by show (0 : Int) < 3; decide, by show (3 : Int) < 1000; decide⟩, F, a, u, [v1, v2, v3], rfl, hs, hu, hf, hm, ⟨?_, hv2, hv3, trivial⟩, q⟩
    show v1 = V.int ((i.toNat : Nat) : Int)
    have hv1 : v1 = V.int i := hv1
    rw [hv1, Int.toNat_of_nonneg (by omega)]
def Wlds (z : Str) (ds : List StD) : Prop := 1 ≤ ds.length ∧ ds.length ≤ 2 ∧ ∀ d ∈ ds, StOk d ∧ d.asks = z
abbrev oWlds (z : Str) : Mo := oE (Wlds z) fun ds => oL (ds.map mWorld)
theorem wlds_in {z : Str} {k : Nat} (h1 : 1 ≤ k) (h2 : k ≤ 2) : ∀ F a o, (oL (List.replicate k (mWldE z))).p F a o → (oWlds z).p F a o := fun F a o ⟨vs, e1, e2⟩ => by
  obtain ⟨xs, c1, c2, c3⟩ := allP_E (p := fun d : StD => StOk d ∧ d.asks = z) (f := mWorld) k vs e2
  exact ⟨xs, ⟨by omega, by omega, c2⟩, vs, e1, c3⟩
/-! the machines -/
def Rdy (d : StD) : Prop := ∃ N, N ≤ 100 ∧ StEnd d N
theorem stN_eq {d : StD} {N : Nat} (hN : N ≤ 900) (h : StEnd d N) : stN d = N := findT_eq hN (decide_eq_true (by rw [h.e]; exact Nat.le_refl _)) fun i hi => decide_eq_false (by have := h.b i hi; omega)
theorem Rdy.ready {d : StD} (h : Rdy d) (ok : StOk d) : Ready d := by
  obtain ⟨N, h1, h2⟩ := h
  have e := stN_eq (by omega) h2
  exact ⟨ok, by rw [e]; exact h2, by rw [e]; omega⟩
open Classical in
noncomputable def machRes (d : StD) : Mp := if Rdy d then mLMach (mach d).1 (mach d).2 else mNone
theorem machR {d : StD} : MachR d 100 (machRes d) := by
  unfold machRes
  by_cases h : Rdy d
  · rw [if_pos h]
    obtain ⟨N, h1, h2⟩ := h
    have e := stN_eq (by omega) h2
    have := MachR.some (mo := 100) h1 h2
    unfold mach
    rw [e]
    exact this
  · rw [if_neg h]
    refine .none fun i hi e => h ?_
    obtain ⟨N, n1, n2, n3⟩ := first_of (p := fun i => (stB d i).1.length = i) i ⟨i, Nat.le_refl _, e⟩
    exact ⟨N, by omega, n2, fun j hj => stB_run j fun q hq => n3 q (by omega)⟩
theorem mach_non : ∀ ds : List StD, ∃ t, NonOr (ds.map machRes) t ∧ (t = false → ∀ d ∈ ds, Rdy d)
  | [] => ⟨false, .nil, fun _ d hd => by cases hd⟩
  | d :: ds => by
    obtain ⟨t, h1, h2⟩ := mach_non ds
    by_cases h : Rdy d
    · have e : machRes d = mLMach (mach d).1 (mach d).2 := if_pos h
      refine ⟨t, ?_, fun q x hx => ?_⟩
      · rw [List.map_cons, e]
        exact .lst h1
      · rcases List.mem_cons.mp hx with z | z
        · rw [z]; exact h
        · exact h2 q x z
    · have e : machRes d = mNone := if_neg h
      refine ⟨true, ?_, fun q => by cases q⟩
      rw [List.map_cons, e]
      exact .non h1
theorem mach_map {ds : List StD} (h : ∀ d ∈ ds, Rdy d) : ds.map machRes = (ds.map mach).map fun m => mLMach m.1 m.2 := by
  rw [List.map_map]
  exact List.map_congr_left fun d hd => if_pos (h d hd)
theorem web_R (c : Cl) : SpotsR c 200 mNone ∨ ∃ N, WebEnd c N ∧ SpotsR c 200 (mWebL c N) := by
  by_cases h : ∃ N, N ≤ 200 ∧ (Afw.spB c N).1.length = N
  · obtain ⟨N, n1, n2, n3⟩ := first_of (p := fun i => (Afw.spB c i).1.length = i) 200 h
    exact .inr ⟨N, ⟨by omega, n2, n3⟩, .some n1 n2 n3⟩
  · exact .inl (.none fun i hi e => h ⟨i, hi, e⟩)
theorem gt1_in {z : Str} (hz : askOk z = true) : ∀ H v, (mL [mL (List.replicate z.length (mInt 0))]).p H v → (mGtE z).p H v := fun H v h => by
  refine ⟨[List.replicate z.length (some 0)], ⟨⟨hz, by show 1 ≤ 1 ∧ 1 ≤ 50; omega, fun os hos => ?_⟩, by show 1 ≤ 4; omega⟩, ?_⟩
  · rw [List.mem_singleton.mp hos, List.length_replicate]
    refine ⟨rfl, fun o ho i hi => ?_⟩
    rw [List.eq_of_mem_replicate ho] at hi
    cases hi
    exact ⟨Int.le_refl _, by show (0 : Int) < 1; omega⟩
  · show (mL [mL (List.map mOpt (List.replicate z.length (some 0)))]).p H v
    rw [List.map_replicate]
    exact h
abbrev G_law (P : Program) (w : World) (K : PySem.W.Frag) (mg : Str → Option Value) (base : Heap) : Prop := HasG P w K mg base 12 "law" ["_law_script"] (spP (fun _ : List Int => True) (fun ns => [mLs ns]) fun _ => mBool true)
theorem ok_law (T : Tx K mg) (G1 : H_law_draw P w K mg base) (G2 : H_law_source P w K mg base) (G3 : H_law_asks P w K mg base) (G4 : H_law_world P w K mg base) (G5 : H_law_machine P w K mg base) (G6 : H_law_row P w K mg base) (G7 : H_law_gate P w K mg base) (G8 : H_law_spots P w K mg base) (G9 : H_law_gains P w K mg base) (G10 : H_law_led_to P w K mg base)
    (G11 : H_Store P w K mg base) (G12 : H_Gate P w K mg base) (G13 : H_judge_ring P w K mg base) (G14 : G_law_orders P w K mg base) : G_law P w K mg base := by
  obtain ⟨fd, D, B⟩ := T.D_law
  refine ⟨fd, fnG_pure D sc_law (fun _ => rfl) (by decide) ?_, B, T.g_law, D.kp⟩
  rintro ns _ cdv A outer s H E e hG hr
  have hu2 := Nat.lt_of_le_of_lt (Nat.add_le_add_left (by decide : 2 ≤ 64) _) hr.units
  have GW := world12 G4
  refine ⟨.rt (mBool true) any23, any23, js_cons (jsetO 1 (jo_callH (i := (ns, 0)) G2 hr (by omega) (ja_cons (jv 0) (ja1 je_int)) (Nat.zero_le _)) sc_law.nd)
    (js_cons (jset 2 (je_callS (i := ()) 1 G3 hr (by omega) ja_nil trivial) sc_law.nd) (js_exV (p := fun z : Str => z ∈ askL) (f := mStr) 2 fun z hz => ?_)), .rt⟩
  obtain ⟨a1, _⟩ := far_ok z hz
  have hs := askOk_size a1
  refine js_cons (jsetO 3 (jo_lst (ja1 (je_callFH (i := z) GW hr (by omega) (jo_callH (i := (ns, 1)) G2 hr (by omega) (ja_cons (jv 0) (ja1 je_int)) (by show (1 : Nat) ≤ 1000; decide)) (fun kk => ja_cons (je_subE (P := fun i => i = 0 ∨ i = 1) (Q' := fun i => i = 1 ∨ i = 2) je_int (je_intBE (je_eqE (je_callS (i := 6) 1 G1 hr (by omega) (ja1 je_int) ⟨by decide, by decide⟩) je_int) T.b_int) (fun j hj => by omega)) (ja_cons (jv 2) (ja1 je_int))) a1)) (Nat.le_of_ble_eq_true rfl)) sc_law.nd) ?_
  refine js_cons (js_ifU (r := .nx [.val (mLs ns), .own oSrc, .val (mStr z), .own (oWlds z), .any, .any, .any, .any, .any, .any, .any, .any, .any, .any, .any, .any, .any, .any, .any, .any, .any, .any, .any]) (jtu_eq (je_weak (je_callS (i := 2) 1 G1 hr (by omega) (ja1 je_int) ⟨by decide, by decide⟩) mAI_rng) je_int)
    (js_sub1 3 (js_one (js_app 3 (je_callFH (i := z) GW hr (by omega) (jo_callH (i := (ns, 2)) G2 hr (by omega) (ja_cons (jv 0) (ja1 je_int)) (by show (2 : Nat) ≤ 1000; decide)) (fun kk => ja_cons (je_subE (P := fun i => i = 0 ∨ i = 1) (Q' := fun i => i = 1 ∨ i = 2) je_int (je_intBE (je_eqE (je_callS (i := 6) 1 G1 hr (by omega) (ja1 je_int) ⟨by decide, by decide⟩) je_int) T.b_int) (fun j hj => by omega)) (ja_cons (jv 2) (ja1 je_int))) a1) (hl := by show 1 < 100000; decide))) (.O (wlds_in (k := 2) (by decide) (by decide))))
    (js_sub1 3 js_nil (.O (wlds_in (k := 1) (by decide) (by decide))))) (js_exO (p := Wlds z) (f := fun ds => oL (ds.map mWorld)) 3 fun ds hds => ?_)
  obtain ⟨hd1, hd2, hd3⟩ := hds
  obtain ⟨t, ht1, ht2⟩ := mach_non ds
  refine js_cons (js_setLc1 (i0 := 4) (jx := 21) (fun i => machRes (ds.getD i d0)) (ji_map (f := mWorld) (xs := ds) d0 (.inl rfl) (jfz 3) (g := fun i => mWorld (ds.getD i d0)) (fun _ _ => rfl)) softA (fun i hi k s H C cl fp => je_callH (i := (ds.getD i d0, 100, machRes (ds.getD i d0))) G5 hr (by omega) (ja_cons (jv 21) (ja1 je_int)) ⟨(hd3 _ (getD_mem hi)).1, by show 100 ≤ 900; omega, machR⟩) (by omega) sc_law.nd) ?_
  rw [range_getD_map (d := d0) machRes]
  cases t with
  | true => exact js_weakR (js_rt (js_if (t := true) (jt_noneIn (jpo 4) ht1 (by exact hu2)) (fun _ => js_one (js_ret je_bool)) fun q => by cases q)) (by repeat (first | exact Le.nil | refine Le.same ?_ | refine Le.drop ?_))
  | false =>
    have hrdy := ht2 rfl
    have hz0 : (ds.getD 0 d0).asks = z := (hd3 _ (getD_mem hd1)).2
    subst hz0
    refine js_cons (js_if (t := false) (jt_noneIn (jpo 4) ht1 (by exact hu2)) (fun q => by cases q) fun _ => js_nil) ?_
    rw [mach_map hrdy]
    refine js_cons (js_setLc1 (i0 := 5) (jx := 21) (fun _ => mIE fun i => -2 ≤ i ∧ i ≤ 2) (ji_map (f := mWorld) (xs := ds) d0 (.inl rfl) (jv 3) (g := fun i => mWorld (ds.getD i d0)) (fun _ _ => rfl)) softA (fun i hi k s H C cl fp => je_subR (Q' := fun i => -2 ≤ i ∧ i ≤ 2) (je_callS (i := 5) 1 G1 hr (by omega) (ja1 je_int) ⟨by decide, by decide⟩) je_int (fun i hi => by omega)) (by omega) sc_law.nd)
      (js_exL (p := fun i : Int => -2 ≤ i ∧ i ≤ 2) (f := mInt) (N := ds.length) 5 fun fs hf1 hf2 => ?_)
    refine js_cons (js_setLc1 (i0 := 6) (jx := 22) (fun _ => mIE fun i => -3 ≤ i ∧ i ≤ 3) (ji_str (jv 2)) softA (fun i hi k s H C cl fp => je_subR (Q' := fun i => -3 ≤ i ∧ i ≤ 3) (je_callS (i := 7) 1 G1 hr (by omega) (ja1 je_int) ⟨by decide, by decide⟩) je_int (fun i hi => by omega)) (by show (ds.getD 0 d0).asks.length ≤ 100000; omega) sc_law.nd)
      (js_exL (p := fun i : Int => -3 ≤ i ∧ i ≤ 3) (f := mInt) (N := (ds.getD 0 d0).asks.cps.size) 6 fun cs hc1 hc2 => ?_)
    refine js_cons (jset 7 (je_callFH (i := (ds.getD 0 d0).asks) G7 hr (by omega) (jo_callH (i := (ns, 3)) G2 hr (by omega) (ja_cons (jv 0) (ja1 je_int)) (by show (3 : Nat) ≤ 1000; decide)) (fun kk => ja1 (jv 2)) a1) sc_law.nd) ?_
    refine js_cons (js_ifU (r := .nx [.val (mLs ns), .own oSrc, .val (mStr (ds.getD 0 d0).asks), .val (mL (ds.map mWorld)), .own (oL ((ds.map mach).map fun m => mLMach m.1 m.2)), .val (mLs fs), .val (mLs cs), .val (mGtE (ds.getD 0 d0).asks), .any, .any, .any, .any, .any, .any, .any, .any, .any, .any, .any, .any, .any, .any, .any]) (jtu_eq (je_weak (je_callS (i := 2) 1 G1 hr (by omega) (ja1 je_int) ⟨by decide, by decide⟩) mAI_rng) je_int)
      (js_weak (js_one (jset 7 (m := mGtE (ds.getD 0 d0).asks) (je_weak (je_of (t := mL [mL (List.replicate ((ds.getD 0 d0).asks.length : Int).toNat (mInt 0))]) (je_fz (jo_lst (ja1 (je_fz (jo_rep (je_fzl (jo_lst (ja1 je_int) (Nat.le_of_ble_eq_true rfl))) (je_lenS (jv 2) (by omega) T.b_len) (by omega) (by omega)))) (Nat.le_of_ble_eq_true rfl))) (by rw [Int.toNat_natCast])) (gt1_in a1)) sc_law.nd)) (by repeat (first | exact Le.nil | refine Le.same ?_ | refine Le.drop ?_))) (js_weak js_nil (by repeat (first | exact Le.nil | refine Le.same ?_ | refine Le.drop ?_))))
      (js_exV (p := fun gs : List (List (Option Int)) => GateOk (ds.getD 0 d0).asks gs ∧ gs.length ≤ 4) (f := mGs) 7 fun gs hgs => ?_)
    have hj : JrOk ds fs cs gs := ⟨⟨hd1, by omega⟩, fun d hd => ⟨(hrdy d hd).ready (hd3 d hd).1, (hd3 d hd).2⟩, hf1, fun f hf => by have := hf2 f hf; omega, hc1, hgs.1⟩
    have hcl : ClOk (JrD.cl ⟨ds, fs, cs, gs⟩) := clOf_ok hj
    rcases web_R (JrD.cl ⟨ds, fs, cs, gs⟩) with hw | ⟨N, hw, hR⟩
    · exact js_weakR (js_cons (jset 8 (je_callH (i := (JrD.cl ⟨ds, fs, cs, gs⟩, 200, mNone)) G8 hr (by omega) (ja_cons (jv 2) (ja_cons (jfz 4) (ja_cons (jv 7) (ja1 je_int)))) ⟨hcl, by show 200 ≤ 900; omega, hw⟩) sc_law.nd) (js_rt (js_if (t := true) (jt_isN (jv 8) nonB_none) (fun _ => js_one (js_ret je_bool)) fun q => by cases q))) (by repeat (first | exact Le.nil | refine Le.same ?_ | refine Le.drop ?_))
    · have hi : LwOk ⟨⟨ds, fs, cs, gs⟩, N, ns⟩ := ⟨hj, hw, hz⟩
      refine js_cons (jset 8 (je_callH (i := (JrD.cl ⟨ds, fs, cs, gs⟩, 200, mWebL (JrD.cl ⟨ds, fs, cs, gs⟩) N)) G8 hr (by omega) (ja_cons (jv 2) (ja_cons (jfz 4) (ja_cons (jv 7) (ja1 je_int)))) ⟨hcl, by show 200 ≤ 900; omega, hR⟩) sc_law.nd)
        (js_cons (js_if (t := false) (jt_isN (jv 8) nonB_L) (fun q => by cases q) fun _ => js_nil)
        (js_cons (jset 9 (je_callH (i := (JrD.cl ⟨ds, fs, cs, gs⟩, N)) G9 hr (by omega) (ja_cons (jv 8) (ja_cons (jv 4) (ja_cons (jv 5) (ja1 (jv 6))))) ⟨hcl, hw⟩) sc_law.nd)
        (js_cons (jset 10 (m := mT (ds.map (mStore K))) (je_of (je_tupOf (jp_of (je_fz (jo_lc1 (jx := 21) (fun i => mStore K (ds.getD i d0)) (ji_map (f := mWorld) (xs := ds) d0 (.inl rfl) (jv 3) (g := fun i => mWorld (ds.getD i d0)) (fun _ _ => rfl)) softA (fun i hi k s H C cl fp => je_fzI (jo_makeH (i := ds.getD i d0) G11 hr (by omega) (ja_cons (je_ix (jpv 21) (i := 0) (m := mStr (ds.getD i d0).asks) je_int rfl) (ja_cons (je_ix (jpv 21) (i := 1) (m := mLs (ds.getD i d0).begins) je_int rfl) (ja_cons (je_ix (jpv 21) (i := 2) (m := mLc (ds.getD i d0).costs) je_int rfl) (ja1 (je_ix (jpv 21) (i := 3) (m := mLs (ds.getD i d0).ends) je_int rfl))))) (hd3 _ (getD_mem hi)).1)) (by omega) sc_law.nd))) T.b_tuple) (by rw [range_getD_map])) sc_law.nd)
        (js_cons (jset 11 (m := mGate K (ds.getD 0 d0).asks gs) (je_fzI (jo_makeH (i := ((ds.getD 0 d0).asks, gs)) G12 hr (by omega) (ja_cons (jv 2) (ja1 (jv 7))) hgs.1)) sc_law.nd)
        (js_cons (jsetO 1 (jo_callH (i := (ns, 4)) G2 hr (by omega) (ja_cons (jv 0) (ja1 je_int)) (by show (4 : Nat) ≤ 1000; decide)) sc_law.nd)
        (js_cons (js_forN (fun _ => lwS K ⟨⟨ds, fs, cs, gs⟩, N, ns⟩) (ji_range1 je_int (by decide) (by decide) T.b_range) (by repeat (first | exact Le.nil | refine Le.same ?_ | refine Le.drop ?_)) (fun i hi' => ⟨_, _, jgn 12 sc_law.nd, lw_turn T G1 G6 G10 G13 hi hr, Le.rfl⟩) PassesOwn.never)
        (lw_tail T G1 G13 G14 hi hG hr)))))))
end Afw

/-! text J27 -/
set_option Elab.async false
set_option linter.all false
set_option maxRecDepth 100000
set_option maxHeartbeats 4000000
namespace Jd
open PySem PySem.W L2 PySem.Spec PyProof.Rows
/-! ### the end: the law's def is called with the script -/
section
variable {P : Program} {w : World} {K : PySem.W.Frag} {mg mb : Str → Option Value} {k : Nat} {fa ad : Addr} {x : Str} {sp : Sp} {t0 : Shared} {vs : List Value} {ns : List Int}
/-- the abstract heap that holds the script alone -/
def scriptH (ad : Addr) (vs : List Value) (ns : List Int) : Hp := fun b => if b = ad then some (.frz { cls := .type "list", data := .seq vs.toArray } (.lst (ns.map V.int))) else none
theorem scriptH_at {ad : Addr} {vs : List Value} {ns : List Int} : scriptH ad vs ns ad = some (.frz { cls := .type "list", data := .seq vs.toArray } (.lst (ns.map V.int))) := if_pos rfl
theorem scriptH_ne {ad b : Addr} {vs : List Value} {ns : List Int} (h : b ≠ ad) : scriptH ad vs ns b = none := if_neg h
theorem callG (inK : K.In t0.heap) (no : K.lookup ad = none) (glob : t0.heap.Ns mainGlobals mg) (blt : t0.heap.Ns builtinsNs mb) (bb : ∀ y : Str, y ≠ "__name__" → mb y = bootBuiltins y) (lim : t0.heap.NoLimit) (gens : t0.gens = #[])
    (lst : t0.heap.get? ad = some { cls := .type "list", data := .seq vs.toArray }) (nums : IntsAre vs ns) (len : ns.length ≤ sizeLine) (hr : Room k callerA)
    (G : ∀ base : Heap, K.In base → base.Ns mainGlobals mg → ∃ fd : FuncData, FnG P w K mg base k fa fd [x] sp ∧ BindsTo t0 fd ⟨[.ref ad], []⟩ [(x, .ref ad)])
    (promise : Rd (scriptH ad vs ns) ad (.lst (ns.map V.int)) → sp [.ref ad] (scriptH ad vs ns) (fun v _ => v = .bl true) fun _ _ _ => False) :
    codeAny (model P w) callerA (.call (.ref fa) ⟨[.ref ad], []⟩) (fun res t1 => res = .ok (.ret (.bool true)) ∧ OldK t0.heap t1.heap ∧ t1.os = t0.os ∧ AllBare t1.gens) t0 := by
  have rel := vals_ints nums
  have isD : ∀ {b : Addr} {ob : Obj} {es : Array DictEntry} {ep : Nat}, t0.heap.get? b = some ob → ob.data = .dict es ep → b ≠ ad := fun {b ob es ep} h1 h2 z => by
    rw [z, lst] at h1
    cases h1
    have h3 : Data.seq vs.toArray _ = Data.dict es ep := h2
    cases h3
  have keepNs : ∀ {b : Addr} {m : Str → Option Value}, t0.heap.Ns b m → (hidT t0.heap (scriptH ad vs ns)).Ns b m := fun {b m} ⟨ob, es, ep, h1, h2, h3⟩ => ⟨ob, es, ep, hidT_get h1 (scriptH_ne (isD h1 h2)), h2, h3⟩
  have baseK : K.In (hidT t0.heap (scriptH ad vs ns)) := fun b ob h1 => hidT_get (inK b ob h1) (scriptH_ne fun z => by
    rw [z, no] at h1
    cases h1)
  have ok : HOk P w (scriptH ad vs ns) t0.heap := fun b ob h1 => by
    by_cases z : b = ad
    · subst z
      rw [scriptH_at] at h1
      cases h1
      exact ⟨lst, by rw [List.length_map]; exact len, vs, _, rel, lst⟩
    · rw [scriptH_ne z] at h1
      cases h1
  have md : L2.Mod K mg (hidT t0.heap (scriptH ad vs ns)) := ⟨baseK, keepNs glob, ⟨mb, keepNs blt, bb⟩, let ⟨mc, l1, l2⟩ := lim; ⟨mc, keepNs l1, l2⟩⟩
  have env : Env0 P w K mg (hidT t0.heap (scriptH ad vs ns)) callerA [] t0 (scriptH ad vs ns) := ⟨rfl, md, fun b ob h1 => of_hidT h1, Nat.le_of_eq (hidT_size _ _), trivial, fun b hb => by (cases (show b ∈ ([] : List Addr) from hb)), ok, .of_eq gens⟩
  obtain ⟨fd, F, bind⟩ := G _ baseK (keepNs glob)
  refine codeAny_mono (F.run callerA [] t0 (scriptH ad vs ns) ⟨[.ref ad], []⟩ [.ref ad] [.ref ad] _ _ rfl hr env bind (.cons rfl .nil) (promise (.inr ⟨_, scriptH_at⟩))) fun res t1 done => ?_
  match res, done with
  | .error er, done => exact done.elim
  | .ok .next, done => exact done.elim
  | .ok .brk, done => exact done.elim
  | .ok .cont, done => exact done.elim
  | .ok (.ret u), ⟨v, H', os, bare, un, hok', rv, q⟩ =>
    have q : v = .bl true := q
    subst q
    obtain rfl : u = Value.bool true := rv
    refine ⟨rfl, OldK.of_keep fun b ob h1 => ?_, os, bare⟩
    by_cases z : b = ad
    · subst z
      have h2 := un.frzs b _ _ (scriptH_at (vs := vs) (ns := ns))
      obtain ⟨h3, _⟩ := hok' b _ h2
      rw [lst] at h1
      cases h1
      exact h3
    · exact un.keep b ob h1 (scriptH_ne z) (by intro y; cases (show b ∈ ([] : List Addr) from y)) (by simp)
end
end Jd

/-! text D40 -/
set_option Elab.async false
set_option linter.all false
set_option maxRecDepth 100000
set_option maxHeartbeats 8000000
namespace Afw
open PySem L2 PySem.Spec PyProof.Rows Jd
variable {P : Program} {w : World} {K : PySem.W.Frag} {mg : Str → Option Value} {base : Heap}
/-! ### all defs -/
theorem law_all (T : Tx K mg) (Z : Tz K) : G_law P w K mg base := by
  have is_integer := ok_is_integer (P := P) (w := w) (base := base) T
  have is_count := ok_is_count T is_integer
  have is_listed := ok_is_listed (P := P) (w := w) (base := base) T
  have deep := ok_deep T is_listed
  have check_asks := ok_check_asks T (ok_is_asks (P := P) (w := w) (base := base) T)
  have row_over := ok_row_over (P := P) (w := w) (base := base) T
  have integers := ok_integers T is_listed is_integer
  have gate_ := ok_Gate T check_asks is_listed (ok_is_item_gates T is_listed is_count) (deep 3)
  have store_ := ok_Store T check_asks is_listed integers (ok_are_costs T is_listed (ok_is_table T is_listed integers)) (deep 4)
  have standings := ok_standings T (ok_led (P := P) (w := w) (base := base) T) (ok_lowered T) (ok_Standings T)
  have machine_ := ok_Machine T check_asks is_integer is_listed (ok_is_item_machines T is_listed is_count is_integer) (deep 4) (ok_least_rows T)
  have least_machine := ok_least_machine T (Z.isi T) (ok_standing_steps T standings (ok_added T)) (ok_shrunk_steps T (ok_classes_of T)) machine_
  have spot_moves := ok_spot_moves (P := P) (w := w) (base := base) T
  have check_tellers := ok_check_tellers T integers
  have judge_ring := ok_judge_ring T (ok_taken T check_tellers (ok_checked_counts T integers) least_machine (ok_gate_steps T)) (ok_spot_web T spot_moves (ok_Web T)) row_over (ok_spot_behind T spot_moves)
  have draw := ok_law_draw (P := P) (w := w) (base := base) T
  have prices := ok_law_prices T draw
  have world := ok_law_world T draw prices (ok_law_changes T (ok_law_change T draw)) (ok_law_any_table T prices) (ok_law_served T)
  have lmachine := ok_law_machine T (ok_law_lots T (ok_law_led (P := P) (w := w) (base := base) T) (ok_law_low T)) (ok_law_shrunk T (ok_law_classes T))
  have refused := ok_law_refused T Z (xk_judge_ring T (xk_taken T Z (xk_check_asks T Z) (xk_check_factors T Z integers) (xk_checked_counts T Z integers) check_tellers (ok_checked_counts0 T)))
  have orders := ok_law_orders T Z draw (ok_law_lists T) store_ gate_ refused
  exact ok_law T draw (ok_law_source T (ok_law_cell T)) (ok_law_asks T draw) world lmachine (ok_law_row T draw) (ok_law_gate T draw) (ok_law_spots T) (ok_law_gains T) (ok_law_led_to T) store_ gate_ judge_ring orders
theorem script_in {H : Hp} {a : Addr} {ns : List Int} (h : Rd H a (.lst (ns.map V.int))) : (mLs ns).p H (.ref a) := by
  have go : ∀ l : List Int, allP H (l.map mInt) (l.map V.int) := fun l => by
    induction l with
    | nil => exact trivial
    | cons i l ih => exact ⟨rfl, ih⟩
  exact ⟨a, _, rfl, h, go ns⟩
theorem walk {XP : (Str → Option Value) → Heap → Prop} {d : DefRec} (hn : d.name = ("law" : Str)) (hd : d.params.defaults = []) :
    PySem.W.WalkO (PySem.W.view R.prog [102]) names XP (fun w h => hk.says w h) (PySem.W.OpenLaw.row PySem.Challenge.rw_afterwise_k17_whole_rings_judged).toRowW d [] (fun f vs => PySem.call f vs) := by
  refine Att.attach_call (n := 63) rfl hd fun w s0 s1 mg mb fa o pm cd doc a vs ns G Y ho hdd hcd hmg hobj hints hlen hg => ?_
  obtain ⟨K, c⟩ := Y
  have T : Tx K mg := ⟨c.s, _, c.i, G.T.g⟩
  have Z : Tz K := ⟨c.e⟩
  rw [hn] at hmg
  have ea := hmg.symm.trans T.g_law
  cases ea
  have no : K.lookup a = none := by
    cases z : K.lookup a with
    | none => rfl
    | some u =>
      have h1 := c.i a u z
      rw [hobj] at h1
      cases h1
      have h2 := c.l a _ z
      simp [lst?] at h2
  refine callG (x := "_law_script") (sp := spP (fun _ : List Int => True) (fun ns => [mLs ns]) fun _ => mBool true) (k := 12) c.i no G.T.g G.T.b G.T.builtins G.T.nolimit hg hobj hints (Nat.le_trans hlen (by decide)) ⟨rfl, by decide, by decide⟩ (fun base inB nsB => ?_) fun hR => ?_
  · obtain ⟨fd, F, B, _, _⟩ := law_all (P := PySem.Challenge.rw_afterwise_k17_whole_rings_judged.prog) (w := w) (base := base) T Z
    exact ⟨fd, F, B s1 [.ref a] c.i rfl⟩
  · exact ⟨ns, trivial, _, Ex.rfl, ⟨script_in hR, trivial⟩, fun v F' H' _ hv => hv⟩
end Afw

/-! text E1 -/
open PySem PySem.W PySem.Calls PyProof.Rows
set_option Elab.async false
set_option maxRecDepth 100000 in
set_option maxHeartbeats 0 in
theorem PySem.Challenge.cw_afterwise_k17_whole_rings_judged_holds : PySem.Challenge.rw_afterwise_k17_whole_rings_judged.Holds := by
  w_on; o_law
  refine HandSHeadRun.head_any (r := Afw.R) (q := view Afw.R.prog [102]) (H := Afw.hk) (ob := Afw.ob) (M := 60000) (loose := Afw.names) (d := HandSHeadRun.topDef Afw.R.prog 102) (kwd := []) Afw.ob_eq
    (by kernel_rfl) (fun s => by kernel_rfl) Afw.run (by kernel_rfl) (by kernel_rfl) (by kernel_rfl) (by rfl) (by first | assumption | decide +kernel) (by decide +kernel) ⟨rfl, rfl, rfl, rfl, rfl, by decide +kernel⟩ ?hw ?hc
  case hw => w_witness2
  case hc => exact Afw.walk (by kernel_rfl) (by kernel_rfl)
