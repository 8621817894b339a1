import PyProof.Rows.All
import Wide.All
import OpenK.AllK
import Wide.FinOn
import HandS.ForMost
import HandS.Exc
import HandS.TryOnly
import HandS.ExcOwn
import HandS.WordsExc
import HandS.DictComp
import HandS.DeepEq
import HandS.IsInst
import HandS.Small
import HandS.Style
import HandS.RaiseMore
import HandS.Star
import HandS.ListItems
import HandS.Defaults
import HandS.HeadHook2
import HandS.CallRecv
import HandS.GenList
import HandS.Zip
import PySem.Challenge.RW_ballchutes_k01_whole_orders
import KE.KSuper
import HandS.ExcInit
import HandS.ExcField
import KE.KStateDown
import HandS.Head0
import HandS.Head1
import HandS.Head2
import HandS.HeadEnd
import HandS.Steps
import HandS.TupAny
import HandS.Walk
import KE.KDictSum
import KE.GoesEnum
import HandS.OwnEq
import HandS.GenYield
import HandS.GenCall
import KE.KExcSuper
import HandS.Nested
import KE.DataMinMax
set_option Elab.async false
set_option linter.all false
set_option maxRecDepth 100000
set_option maxHeartbeats 2000000
namespace K1
open PySem PySem.Spec L2
open PyProof.Rows hiding St
def top (i : Nat) : Stmt := PySem.Challenge.pw_ballchutes_k01_whole_orders.main.body.getD i (.Pass ⟨0, 0, 0, 0⟩)
abbrev s_minors_of : Stmt := top 1
abbrev s_is_number : Stmt := top 14
abbrev s_is_name : Stmt := top 15
abbrev s_is_row : Stmt := top 16
abbrev s_is_knot : Stmt := top 17
abbrev s_first_wrong : Stmt := top 18
abbrev s_Net_init : Stmt := inClass (top 19) 0
abbrev s_Net_eq : Stmt := inClass (top 19) 1
abbrev s_Net_len : Stmt := inClass (top 19) 2
abbrev s_Net_contains : Stmt := inClass (top 19) 3
abbrev s_Net_met : Stmt := inClass (top 19) 4
abbrev s_Net_start : Stmt := inClass (top 19) 5
abbrev s_Net_front : Stmt := inClass (top 19) 6
abbrev s_Net_period : Stmt := inClass (top 19) 7
abbrev s_Net_turned : Stmt := inClass (top 19) 8
abbrev s_Net_check_standing : Stmt := inClass (top 19) 9
abbrev s_Net_place_behind : Stmt := inClass (top 19) 10
abbrev s_Net_dropped : Stmt := inClass (top 19) 11
abbrev s_count : Stmt := top 20
abbrev s_check_net : Stmt := top 21
abbrev s_lattice : Stmt := top 23
abbrev s_ends : Stmt := top 24
abbrev s_check_balls : Stmt := top 26
abbrev s_Board_init : Stmt := inClass (top 27) 0
abbrev s_Board_take : Stmt := inClass (top 27) 1
abbrev s_Board_first_waiting : Stmt := inClass (top 27) 2
abbrev s_Board_follow : Stmt := inClass (top 27) 3
abbrev s_Settled_init : Stmt := inClass (top 28) 0
abbrev s_Settled_eq : Stmt := inClass (top 28) 1
abbrev s_Settled_shows : Stmt := inClass (top 28) 2
abbrev s_begun : Stmt := top 29
abbrev s_settle : Stmt := top 30
abbrev s_played : Stmt := top 31
abbrev s_knots_in_turn : Stmt := top 32
abbrev s_law_draw : Stmt := top 34
abbrev s_law_knots : Stmt := top 35
abbrev s_law_inlets : Stmt := top 36
abbrev s_law_drop : Stmt := top 37
abbrev s_law_play : Stmt := top 38
abbrev s_law_waiting : Stmt := top 39
abbrev s_law_falls : Stmt := top 40
abbrev s_law_det : Stmt := top 41
abbrev s_law_matrix : Stmt := top 42
abbrev s_law_does_end : Stmt := top 43
abbrev s_law_refuses : Stmt := top 44
abbrev s_law_rounds_for : Stmt := top 45
abbrev s_law_is_quick : Stmt := top 46
abbrev s_law : Stmt := top 47
def d_minors_of : He.DefD := ⟨("minors_of", none), "minors_of", "minors_of", defArgs s_minors_of, defBody s_minors_of, defScope s_minors_of, [], []⟩
def d_is_number : He.DefD := ⟨("is_number", none), "is_number", "is_number", defArgs s_is_number, defBody s_is_number, defScope s_is_number, [], []⟩
def d_is_name : He.DefD := ⟨("is_name", none), "is_name", "is_name", defArgs s_is_name, defBody s_is_name, defScope s_is_name, [], []⟩
def d_is_row : He.DefD := ⟨("is_row", none), "is_row", "is_row", defArgs s_is_row, defBody s_is_row, defScope s_is_row, [], []⟩
def d_is_knot : He.DefD := ⟨("is_knot", none), "is_knot", "is_knot", defArgs s_is_knot, defBody s_is_knot, defScope s_is_knot, [], []⟩
def d_first_wrong : He.DefD := ⟨("first_wrong", none), "first_wrong", "first_wrong", defArgs s_first_wrong, defBody s_first_wrong, defScope s_first_wrong, [], []⟩
def d_Net_init : He.DefD := ⟨("Net", some "__init__"), "__init__", "Net.__init__", defArgs s_Net_init, defBody s_Net_init, defScope s_Net_init, [], []⟩
def d_Net_eq : He.DefD := ⟨("Net", some "__eq__"), "__eq__", "Net.__eq__", defArgs s_Net_eq, defBody s_Net_eq, defScope s_Net_eq, [], []⟩
def d_Net_len : He.DefD := ⟨("Net", some "__len__"), "__len__", "Net.__len__", defArgs s_Net_len, defBody s_Net_len, defScope s_Net_len, [], []⟩
def d_Net_contains : He.DefD := ⟨("Net", some "__contains__"), "__contains__", "Net.__contains__", defArgs s_Net_contains, defBody s_Net_contains, defScope s_Net_contains, [], []⟩
def d_Net_met : He.DefD := ⟨("Net", some "met"), "met", "Net.met", defArgs s_Net_met, defBody s_Net_met, defScope s_Net_met, [], []⟩
def d_Net_start : He.DefD := ⟨("Net", some "start"), "start", "Net.start", defArgs s_Net_start, defBody s_Net_start, defScope s_Net_start, [], []⟩
def d_Net_front : He.DefD := ⟨("Net", some "front"), "front", "Net.front", defArgs s_Net_front, defBody s_Net_front, defScope s_Net_front, [], []⟩
def d_Net_period : He.DefD := ⟨("Net", some "period"), "period", "Net.period", defArgs s_Net_period, defBody s_Net_period, defScope s_Net_period, [], []⟩
def d_Net_turned : He.DefD := ⟨("Net", some "turned"), "turned", "Net.turned", defArgs s_Net_turned, defBody s_Net_turned, defScope s_Net_turned, [], []⟩
def d_Net_check_standing : He.DefD := ⟨("Net", some "check_standing"), "check_standing", "Net.check_standing", defArgs s_Net_check_standing, defBody s_Net_check_standing, defScope s_Net_check_standing, [], []⟩
def d_Net_place_behind : He.DefD := ⟨("Net", some "place_behind"), "place_behind", "Net.place_behind", defArgs s_Net_place_behind, defBody s_Net_place_behind, defScope s_Net_place_behind, [], []⟩
def d_Net_dropped : He.DefD := ⟨("Net", some "dropped"), "dropped", "Net.dropped", defArgs s_Net_dropped, defBody s_Net_dropped, defScope s_Net_dropped, [], []⟩
def d_count : He.DefD := ⟨("count", none), "count", "count", defArgs s_count, defBody s_count, defScope s_count, [], []⟩
def d_check_net : He.DefD := ⟨("check_net", none), "check_net", "check_net", defArgs s_check_net, defBody s_check_net, defScope s_check_net, [], []⟩
def d_lattice : He.DefD := ⟨("lattice", none), "lattice", "lattice", defArgs s_lattice, defBody s_lattice, defScope s_lattice, [], []⟩
def d_ends : He.DefD := ⟨("ends", none), "ends", "ends", defArgs s_ends, defBody s_ends, defScope s_ends, [], []⟩
def d_check_balls : He.DefD := ⟨("check_balls", none), "check_balls", "check_balls", defArgs s_check_balls, defBody s_check_balls, defScope s_check_balls, [], []⟩
def d_Board_init : He.DefD := ⟨("Board", some "__init__"), "__init__", "Board.__init__", defArgs s_Board_init, defBody s_Board_init, defScope s_Board_init, [], []⟩
def d_Board_take : He.DefD := ⟨("Board", some "take"), "take", "Board.take", defArgs s_Board_take, defBody s_Board_take, defScope s_Board_take, [], []⟩
def d_Board_first_waiting : He.DefD := ⟨("Board", some "first_waiting"), "first_waiting", "Board.first_waiting", defArgs s_Board_first_waiting, defBody s_Board_first_waiting, defScope s_Board_first_waiting, [], []⟩
def d_Board_follow : He.DefD := ⟨("Board", some "follow"), "follow", "Board.follow", defArgs s_Board_follow, defBody s_Board_follow, defScope s_Board_follow, [], []⟩
def d_Settled_init : He.DefD := ⟨("Settled", some "__init__"), "__init__", "Settled.__init__", defArgs s_Settled_init, defBody s_Settled_init, defScope s_Settled_init, [], []⟩
def d_Settled_eq : He.DefD := ⟨("Settled", some "__eq__"), "__eq__", "Settled.__eq__", defArgs s_Settled_eq, defBody s_Settled_eq, defScope s_Settled_eq, [], []⟩
def d_Settled_shows : He.DefD := ⟨("Settled", some "shows"), "shows", "Settled.shows", defArgs s_Settled_shows, defBody s_Settled_shows, defScope s_Settled_shows, [.non], []⟩
def d_begun : He.DefD := ⟨("begun", none), "begun", "begun", defArgs s_begun, defBody s_begun, defScope s_begun, [], []⟩
def d_settle : He.DefD := ⟨("settle", none), "settle", "settle", defArgs s_settle, defBody s_settle, defScope s_settle, [.non], []⟩
def d_played : He.DefD := ⟨("played", none), "played", "played", defArgs s_played, defBody s_played, defScope s_played, [.non], []⟩
def d_knots_in_turn : He.DefD := ⟨("knots_in_turn", none), "knots_in_turn", "knots_in_turn", defArgs s_knots_in_turn, defBody s_knots_in_turn, defScope s_knots_in_turn, [.non], []⟩
def d_law_draw : He.DefD := ⟨("_law_draw", none), "_law_draw", "_law_draw", defArgs s_law_draw, defBody s_law_draw, defScope s_law_draw, [], []⟩
def d_law_knots : He.DefD := ⟨("_law_knots", none), "_law_knots", "_law_knots", defArgs s_law_knots, defBody s_law_knots, defScope s_law_knots, [], []⟩
def d_law_inlets : He.DefD := ⟨("_law_inlets", none), "_law_inlets", "_law_inlets", defArgs s_law_inlets, defBody s_law_inlets, defScope s_law_inlets, [], []⟩
def d_law_drop : He.DefD := ⟨("_law_drop", none), "_law_drop", "_law_drop", defArgs s_law_drop, defBody s_law_drop, defScope s_law_drop, [], []⟩
def d_law_play : He.DefD := ⟨("_law_play", none), "_law_play", "_law_play", defArgs s_law_play, defBody s_law_play, defScope s_law_play, [], []⟩
def d_law_waiting : He.DefD := ⟨("_law_waiting", none), "_law_waiting", "_law_waiting", defArgs s_law_waiting, defBody s_law_waiting, defScope s_law_waiting, [], []⟩
def d_law_falls : He.DefD := ⟨("_law_falls", none), "_law_falls", "_law_falls", defArgs s_law_falls, defBody s_law_falls, defScope s_law_falls, [], []⟩
def d_law_det : He.DefD := ⟨("_law_det", none), "_law_det", "_law_det", defArgs s_law_det, defBody s_law_det, defScope s_law_det, [], []⟩
def d_law_matrix : He.DefD := ⟨("_law_matrix", none), "_law_matrix", "_law_matrix", defArgs s_law_matrix, defBody s_law_matrix, defScope s_law_matrix, [], []⟩
def d_law_does_end : He.DefD := ⟨("_law_does_end", none), "_law_does_end", "_law_does_end", defArgs s_law_does_end, defBody s_law_does_end, defScope s_law_does_end, [], []⟩
def d_law_refuses : He.DefD := ⟨("_law_refuses", none), "_law_refuses", "_law_refuses", defArgs s_law_refuses, defBody s_law_refuses, defScope s_law_refuses, [], []⟩
def d_law_rounds_for : He.DefD := ⟨("_law_rounds_for", none), "_law_rounds_for", "_law_rounds_for", defArgs s_law_rounds_for, defBody s_law_rounds_for, defScope s_law_rounds_for, [], []⟩
def d_law_is_quick : He.DefD := ⟨("_law_is_quick", none), "_law_is_quick", "_law_is_quick", defArgs s_law_is_quick, defBody s_law_is_quick, defScope s_law_is_quick, [], []⟩
def d_law : He.DefD := ⟨("law", none), "law", "law", defArgs s_law, defBody s_law, defScope s_law, [], []⟩
def fn : List He.DefD := [d_minors_of, d_is_number, d_is_name, d_is_row, d_is_knot, d_first_wrong, d_Net_init, d_Net_eq, d_Net_len, d_Net_contains, d_Net_met, d_Net_start, d_Net_front, d_Net_period, d_Net_turned, d_Net_check_standing, d_Net_place_behind, d_Net_dropped, d_count, d_check_net, d_lattice, d_ends, d_check_balls, d_Board_init, d_Board_take, d_Board_first_waiting, d_Board_follow, d_Settled_init, d_Settled_eq, d_Settled_shows, d_begun, d_settle, d_played, d_knots_in_turn, d_law_draw, d_law_knots, d_law_inlets, d_law_drop, d_law_play, d_law_waiting, d_law_falls, d_law_det, d_law_matrix, d_law_does_end, d_law_refuses, d_law_rounds_for, d_law_is_quick, d_law]
def fa : List He.Fa := [.glo "minors_of",
  .glo "is_number",
  .glo "is_name",
  .glo "is_row",
  .glo "is_knot",
  .glo "first_wrong",
  .glo "count",
  .glo "check_net",
  .glo "lattice",
  .glo "ends",
  .glo "check_balls",
  .glo "begun",
  .glo "settle",
  .glo "played",
  .glo "knots_in_turn",
  .glo "_law_draw",
  .glo "_law_knots",
  .glo "_law_inlets",
  .glo "_law_drop",
  .glo "_law_play",
  .glo "_law_waiting",
  .glo "_law_falls",
  .glo "_law_det",
  .glo "_law_matrix",
  .glo "_law_does_end",
  .glo "_law_refuses",
  .glo "_law_rounds_for",
  .glo "_law_is_quick",
  .glo "law",
  .glo "Net",
  .glo "Board",
  .glo "Settled",
  .glo "BadNet",
  .glo "BadStanding",
  .glo "BadBalls",
  .glo "BadOrder",
  .glo "NeverEnds",
  .free "isinstance",
  .free "int",
  .free "bool",
  .free "str",
  .free "dict",
  .free "list",
  .free "tuple",
  .free "len",
  .free "all",
  .free "any",
  .free "sorted",
  .free "range",
  .free "enumerate",
  .free "zip",
  .free "min",
  .free "max",
  .int "MOST_KNOTS" 12,
  .int "MOST_DROPS" 12,
  .int "MOST_TARGETS" 4,
  .int "MOST_SIGNS" 16,
  .cls "Net",
  .mkr "Net",
  .noat "Net" "knots",
  .noat "Net" "inlets",
  .noat "Net" "outlets",
  .noat "Net" "names",
  .meth "Net" "__init__",
  .meth "Net" "__eq__",
  .meth "Net" "__len__",
  .meth "Net" "__contains__",
  .meth "Net" "met",
  .meth "Net" "start",
  .meth "Net" "front",
  .meth "Net" "period",
  .meth "Net" "turned",
  .meth "Net" "check_standing",
  .meth "Net" "place_behind",
  .meth "Net" "dropped",
  .cls "Board",
  .mkr "Board",
  .noat "Board" "net",
  .noat "Board" "standing",
  .noat "Board" "waiting",
  .noat "Board" "out",
  .noat "Board" "taken",
  .meth "Board" "__init__",
  .meth "Board" "take",
  .meth "Board" "first_waiting",
  .meth "Board" "follow",
  .cls "Settled",
  .mkr "Settled",
  .noat "Settled" "taken",
  .noat "Settled" "out",
  .noat "Settled" "standing",
  .noat "Settled" "order",
  .meth "Settled" "__init__",
  .meth "Settled" "__eq__",
  .meth "Settled" "shows",
  .exc "BadStanding",
  .exc "BadBalls",
  .exc "NeverEnds",
  .exm "BadStanding" "BadStanding" true,
  .exm "BadBalls" "BadBalls" true,
  .exm "NeverEnds" "NeverEnds" true,
  .exm "BadOrder" "BadOrder" true,
  .keep "minors_of",
  .keep "is_number",
  .keep "is_name",
  .keep "is_row",
  .keep "is_knot",
  .keep "first_wrong",
  .keep "count",
  .keep "check_net",
  .keep "lattice",
  .keep "ends",
  .keep "check_balls",
  .keep "begun",
  .keep "settle",
  .keep "played",
  .keep "knots_in_turn",
  .keep "_law_draw",
  .keep "_law_knots",
  .keep "_law_inlets",
  .keep "_law_drop",
  .keep "_law_play",
  .keep "_law_waiting",
  .keep "_law_falls",
  .keep "_law_det",
  .keep "_law_matrix",
  .keep "_law_does_end",
  .keep "_law_refuses",
  .keep "_law_rounds_for",
  .keep "_law_is_quick",
  .keep "law",
  .keep "Net",
  .keep "Board",
  .keep "Settled",
  .keep "BadNet",
  .keep "BadStanding",
  .keep "BadBalls",
  .keep "BadOrder",
  .keep "NeverEnds"]
def exF (K : PySem.W.Frag) : List Bool := [
  He.eqO (PySem.W.findIn K (.ref (He.ga K "Net")) "__class__") (some (some (.builtin "object.__class__"))),
  He.eqO (PySem.W.findIn K (.ref (He.ga K "Settled")) "__class__") (some (some (.builtin "object.__class__"))),
  He.eqO (PySem.W.specialIn K (.builtin "object.__class__") "__get__") (some (some (.builtin "getset_descriptor.__get__"))),
  decide (PySem.W.takesIn K (.builtin "object.__class__") = some true),
  decide (PySem.W.mroIn K (He.ga K "Net") (.type "object") = some true),
  decide (PySem.W.mroIn K (He.ga K "Settled") (.type "object") = some true)]
def exB (K : PySem.W.Frag) : Bool := (exF K).all id
theorem exB_at {K : PySem.W.Frag} (h : exB K = true) (i : Nat) {b : Bool} (e : (exF K)[i]? = some b) : b = true := List.all_eq_true.mp h b (List.mem_of_getElem? e)
structure TX (K : PySem.W.Frag) (mg : Str → Option Value) : Prop where
  c : He.SaysD fa fn K
  ex : exB K = true
  glo : ∀ {x : Str}, (He.Fa.glo x).ok K = true → mg x = some (.ref (He.ga K x))
  free : ∀ {x : Str}, (He.Fa.free x).ok K = true → mg x = none
  int : ∀ {x : Str} {i : Int}, (He.Fa.int x i).ok K = true → ∃ t, mg x = some (.int i t)
theorem TX.of {K : PySem.W.Frag} {h : Heap} {mg : Str → Option Value} (X : K.In h) (G : h.Ns mainGlobals mg) (c : He.SaysD fa fn K) (ex : exB K = true) : TX K mg := ⟨c, ex, He.glo_ok X G, He.free_ok X G, He.int_ok X G⟩
section
variable {K : PySem.W.Frag} {mg : Str → Option Value} (T : TX K mg)
include T
theorem TX.g_minors_of : mg "minors_of" = some (.ref (He.ga K "minors_of")) := T.glo (T.c.fact 0 (f := .glo "minors_of") rfl)
theorem TX.g_is_number : mg "is_number" = some (.ref (He.ga K "is_number")) := T.glo (T.c.fact 1 (f := .glo "is_number") rfl)
theorem TX.g_is_name : mg "is_name" = some (.ref (He.ga K "is_name")) := T.glo (T.c.fact 2 (f := .glo "is_name") rfl)
theorem TX.g_is_row : mg "is_row" = some (.ref (He.ga K "is_row")) := T.glo (T.c.fact 3 (f := .glo "is_row") rfl)
theorem TX.g_is_knot : mg "is_knot" = some (.ref (He.ga K "is_knot")) := T.glo (T.c.fact 4 (f := .glo "is_knot") rfl)
theorem TX.g_first_wrong : mg "first_wrong" = some (.ref (He.ga K "first_wrong")) := T.glo (T.c.fact 5 (f := .glo "first_wrong") rfl)
theorem TX.g_count : mg "count" = some (.ref (He.ga K "count")) := T.glo (T.c.fact 6 (f := .glo "count") rfl)
theorem TX.g_check_net : mg "check_net" = some (.ref (He.ga K "check_net")) := T.glo (T.c.fact 7 (f := .glo "check_net") rfl)
theorem TX.g_lattice : mg "lattice" = some (.ref (He.ga K "lattice")) := T.glo (T.c.fact 8 (f := .glo "lattice") rfl)
theorem TX.g_ends : mg "ends" = some (.ref (He.ga K "ends")) := T.glo (T.c.fact 9 (f := .glo "ends") rfl)
theorem TX.g_check_balls : mg "check_balls" = some (.ref (He.ga K "check_balls")) := T.glo (T.c.fact 10 (f := .glo "check_balls") rfl)
theorem TX.g_begun : mg "begun" = some (.ref (He.ga K "begun")) := T.glo (T.c.fact 11 (f := .glo "begun") rfl)
theorem TX.g_settle : mg "settle" = some (.ref (He.ga K "settle")) := T.glo (T.c.fact 12 (f := .glo "settle") rfl)
theorem TX.g_played : mg "played" = some (.ref (He.ga K "played")) := T.glo (T.c.fact 13 (f := .glo "played") rfl)
theorem TX.g_knots_in_turn : mg "knots_in_turn" = some (.ref (He.ga K "knots_in_turn")) := T.glo (T.c.fact 14 (f := .glo "knots_in_turn") rfl)
theorem TX.g__law_draw : mg "_law_draw" = some (.ref (He.ga K "_law_draw")) := T.glo (T.c.fact 15 (f := .glo "_law_draw") rfl)
theorem TX.g__law_knots : mg "_law_knots" = some (.ref (He.ga K "_law_knots")) := T.glo (T.c.fact 16 (f := .glo "_law_knots") rfl)
theorem TX.g__law_inlets : mg "_law_inlets" = some (.ref (He.ga K "_law_inlets")) := T.glo (T.c.fact 17 (f := .glo "_law_inlets") rfl)
theorem TX.g__law_drop : mg "_law_drop" = some (.ref (He.ga K "_law_drop")) := T.glo (T.c.fact 18 (f := .glo "_law_drop") rfl)
theorem TX.g__law_play : mg "_law_play" = some (.ref (He.ga K "_law_play")) := T.glo (T.c.fact 19 (f := .glo "_law_play") rfl)
theorem TX.g__law_waiting : mg "_law_waiting" = some (.ref (He.ga K "_law_waiting")) := T.glo (T.c.fact 20 (f := .glo "_law_waiting") rfl)
theorem TX.g__law_falls : mg "_law_falls" = some (.ref (He.ga K "_law_falls")) := T.glo (T.c.fact 21 (f := .glo "_law_falls") rfl)
theorem TX.g__law_det : mg "_law_det" = some (.ref (He.ga K "_law_det")) := T.glo (T.c.fact 22 (f := .glo "_law_det") rfl)
theorem TX.g__law_matrix : mg "_law_matrix" = some (.ref (He.ga K "_law_matrix")) := T.glo (T.c.fact 23 (f := .glo "_law_matrix") rfl)
theorem TX.g__law_does_end : mg "_law_does_end" = some (.ref (He.ga K "_law_does_end")) := T.glo (T.c.fact 24 (f := .glo "_law_does_end") rfl)
theorem TX.g__law_refuses : mg "_law_refuses" = some (.ref (He.ga K "_law_refuses")) := T.glo (T.c.fact 25 (f := .glo "_law_refuses") rfl)
theorem TX.g__law_rounds_for : mg "_law_rounds_for" = some (.ref (He.ga K "_law_rounds_for")) := T.glo (T.c.fact 26 (f := .glo "_law_rounds_for") rfl)
theorem TX.g__law_is_quick : mg "_law_is_quick" = some (.ref (He.ga K "_law_is_quick")) := T.glo (T.c.fact 27 (f := .glo "_law_is_quick") rfl)
theorem TX.g_law : mg "law" = some (.ref (He.ga K "law")) := T.glo (T.c.fact 28 (f := .glo "law") rfl)
theorem TX.g_Net : mg "Net" = some (.ref (He.ga K "Net")) := T.glo (T.c.fact 29 (f := .glo "Net") rfl)
theorem TX.g_Board : mg "Board" = some (.ref (He.ga K "Board")) := T.glo (T.c.fact 30 (f := .glo "Board") rfl)
theorem TX.g_Settled : mg "Settled" = some (.ref (He.ga K "Settled")) := T.glo (T.c.fact 31 (f := .glo "Settled") rfl)
theorem TX.g_BadNet : mg "BadNet" = some (.ref (He.ga K "BadNet")) := T.glo (T.c.fact 32 (f := .glo "BadNet") rfl)
theorem TX.g_BadStanding : mg "BadStanding" = some (.ref (He.ga K "BadStanding")) := T.glo (T.c.fact 33 (f := .glo "BadStanding") rfl)
theorem TX.g_BadBalls : mg "BadBalls" = some (.ref (He.ga K "BadBalls")) := T.glo (T.c.fact 34 (f := .glo "BadBalls") rfl)
theorem TX.g_BadOrder : mg "BadOrder" = some (.ref (He.ga K "BadOrder")) := T.glo (T.c.fact 35 (f := .glo "BadOrder") rfl)
theorem TX.g_NeverEnds : mg "NeverEnds" = some (.ref (He.ga K "NeverEnds")) := T.glo (T.c.fact 36 (f := .glo "NeverEnds") rfl)
theorem TX.f_isinstance : mg "isinstance" = none := T.free (T.c.fact 37 (f := .free "isinstance") rfl)
theorem TX.f_int : mg "int" = none := T.free (T.c.fact 38 (f := .free "int") rfl)
theorem TX.f_bool : mg "bool" = none := T.free (T.c.fact 39 (f := .free "bool") rfl)
theorem TX.f_str : mg "str" = none := T.free (T.c.fact 40 (f := .free "str") rfl)
theorem TX.f_dict : mg "dict" = none := T.free (T.c.fact 41 (f := .free "dict") rfl)
theorem TX.f_list : mg "list" = none := T.free (T.c.fact 42 (f := .free "list") rfl)
theorem TX.f_tuple : mg "tuple" = none := T.free (T.c.fact 43 (f := .free "tuple") rfl)
theorem TX.f_len : mg "len" = none := T.free (T.c.fact 44 (f := .free "len") rfl)
theorem TX.f_all : mg "all" = none := T.free (T.c.fact 45 (f := .free "all") rfl)
theorem TX.f_any : mg "any" = none := T.free (T.c.fact 46 (f := .free "any") rfl)
theorem TX.f_sorted : mg "sorted" = none := T.free (T.c.fact 47 (f := .free "sorted") rfl)
theorem TX.f_range : mg "range" = none := T.free (T.c.fact 48 (f := .free "range") rfl)
theorem TX.f_enumerate : mg "enumerate" = none := T.free (T.c.fact 49 (f := .free "enumerate") rfl)
theorem TX.f_zip : mg "zip" = none := T.free (T.c.fact 50 (f := .free "zip") rfl)
theorem TX.f_min : mg "min" = none := T.free (T.c.fact 51 (f := .free "min") rfl)
theorem TX.f_max : mg "max" = none := T.free (T.c.fact 52 (f := .free "max") rfl)
theorem TX.i_MOST_KNOTS : ∃ t, mg "MOST_KNOTS" = some (.int 12 t) := T.int (T.c.fact 53 (f := .int "MOST_KNOTS" 12) rfl)
theorem TX.i_MOST_DROPS : ∃ t, mg "MOST_DROPS" = some (.int 12 t) := T.int (T.c.fact 54 (f := .int "MOST_DROPS" 12) rfl)
theorem TX.i_MOST_TARGETS : ∃ t, mg "MOST_TARGETS" = some (.int 4 t) := T.int (T.c.fact 55 (f := .int "MOST_TARGETS" 4) rfl)
theorem TX.i_MOST_SIGNS : ∃ t, mg "MOST_SIGNS" = some (.int 16 t) := T.int (T.c.fact 56 (f := .int "MOST_SIGNS" 16) rfl)
theorem TX.c_Net : Cls K (He.ga K "Net") := He.cls_ok (T.c.fact 57 (f := .cls "Net") rfl)
theorem TX.mk_Net : Mk K (He.ga K "Net") (He.ma K (He.ga K "Net") "__init__") := He.mkr_ok (T.c.fact 58 (f := .mkr "Net") rfl)
theorem TX.n_Net_knots : NoAttr K (He.ga K "Net") "knots" := He.noat_ok (T.c.fact 59 (f := .noat "Net" "knots") rfl)
theorem TX.n_Net_inlets : NoAttr K (He.ga K "Net") "inlets" := He.noat_ok (T.c.fact 60 (f := .noat "Net" "inlets") rfl)
theorem TX.n_Net_outlets : NoAttr K (He.ga K "Net") "outlets" := He.noat_ok (T.c.fact 61 (f := .noat "Net" "outlets") rfl)
theorem TX.n_Net_names : NoAttr K (He.ga K "Net") "names" := He.noat_ok (T.c.fact 62 (f := .noat "Net" "names") rfl)
theorem TX.m_Net_init : Meth K (He.ga K "Net") "__init__" (He.ma K (He.ga K "Net") "__init__") := He.meth_ok (T.c.fact 63 (f := .meth "Net" "__init__") rfl)
theorem TX.m_Net_eq : Meth K (He.ga K "Net") "__eq__" (He.ma K (He.ga K "Net") "__eq__") := He.meth_ok (T.c.fact 64 (f := .meth "Net" "__eq__") rfl)
theorem TX.m_Net_len : Meth K (He.ga K "Net") "__len__" (He.ma K (He.ga K "Net") "__len__") := He.meth_ok (T.c.fact 65 (f := .meth "Net" "__len__") rfl)
theorem TX.m_Net_contains : Meth K (He.ga K "Net") "__contains__" (He.ma K (He.ga K "Net") "__contains__") := He.meth_ok (T.c.fact 66 (f := .meth "Net" "__contains__") rfl)
theorem TX.m_Net_met : Meth K (He.ga K "Net") "met" (He.ma K (He.ga K "Net") "met") := He.meth_ok (T.c.fact 67 (f := .meth "Net" "met") rfl)
theorem TX.m_Net_start : Meth K (He.ga K "Net") "start" (He.ma K (He.ga K "Net") "start") := He.meth_ok (T.c.fact 68 (f := .meth "Net" "start") rfl)
theorem TX.m_Net_front : Meth K (He.ga K "Net") "front" (He.ma K (He.ga K "Net") "front") := He.meth_ok (T.c.fact 69 (f := .meth "Net" "front") rfl)
theorem TX.m_Net_period : Meth K (He.ga K "Net") "period" (He.ma K (He.ga K "Net") "period") := He.meth_ok (T.c.fact 70 (f := .meth "Net" "period") rfl)
theorem TX.m_Net_turned : Meth K (He.ga K "Net") "turned" (He.ma K (He.ga K "Net") "turned") := He.meth_ok (T.c.fact 71 (f := .meth "Net" "turned") rfl)
theorem TX.m_Net_check_standing : Meth K (He.ga K "Net") "check_standing" (He.ma K (He.ga K "Net") "check_standing") := He.meth_ok (T.c.fact 72 (f := .meth "Net" "check_standing") rfl)
theorem TX.m_Net_place_behind : Meth K (He.ga K "Net") "place_behind" (He.ma K (He.ga K "Net") "place_behind") := He.meth_ok (T.c.fact 73 (f := .meth "Net" "place_behind") rfl)
theorem TX.m_Net_dropped : Meth K (He.ga K "Net") "dropped" (He.ma K (He.ga K "Net") "dropped") := He.meth_ok (T.c.fact 74 (f := .meth "Net" "dropped") rfl)
theorem TX.c_Board : Cls K (He.ga K "Board") := He.cls_ok (T.c.fact 75 (f := .cls "Board") rfl)
theorem TX.mk_Board : Mk K (He.ga K "Board") (He.ma K (He.ga K "Board") "__init__") := He.mkr_ok (T.c.fact 76 (f := .mkr "Board") rfl)
theorem TX.n_Board_net : NoAttr K (He.ga K "Board") "net" := He.noat_ok (T.c.fact 77 (f := .noat "Board" "net") rfl)
theorem TX.n_Board_standing : NoAttr K (He.ga K "Board") "standing" := He.noat_ok (T.c.fact 78 (f := .noat "Board" "standing") rfl)
theorem TX.n_Board_waiting : NoAttr K (He.ga K "Board") "waiting" := He.noat_ok (T.c.fact 79 (f := .noat "Board" "waiting") rfl)
theorem TX.n_Board_out : NoAttr K (He.ga K "Board") "out" := He.noat_ok (T.c.fact 80 (f := .noat "Board" "out") rfl)
theorem TX.n_Board_taken : NoAttr K (He.ga K "Board") "taken" := He.noat_ok (T.c.fact 81 (f := .noat "Board" "taken") rfl)
theorem TX.m_Board_init : Meth K (He.ga K "Board") "__init__" (He.ma K (He.ga K "Board") "__init__") := He.meth_ok (T.c.fact 82 (f := .meth "Board" "__init__") rfl)
theorem TX.m_Board_take : Meth K (He.ga K "Board") "take" (He.ma K (He.ga K "Board") "take") := He.meth_ok (T.c.fact 83 (f := .meth "Board" "take") rfl)
theorem TX.m_Board_first_waiting : Meth K (He.ga K "Board") "first_waiting" (He.ma K (He.ga K "Board") "first_waiting") := He.meth_ok (T.c.fact 84 (f := .meth "Board" "first_waiting") rfl)
theorem TX.m_Board_follow : Meth K (He.ga K "Board") "follow" (He.ma K (He.ga K "Board") "follow") := He.meth_ok (T.c.fact 85 (f := .meth "Board" "follow") rfl)
theorem TX.c_Settled : Cls K (He.ga K "Settled") := He.cls_ok (T.c.fact 86 (f := .cls "Settled") rfl)
theorem TX.mk_Settled : Mk K (He.ga K "Settled") (He.ma K (He.ga K "Settled") "__init__") := He.mkr_ok (T.c.fact 87 (f := .mkr "Settled") rfl)
theorem TX.n_Settled_taken : NoAttr K (He.ga K "Settled") "taken" := He.noat_ok (T.c.fact 88 (f := .noat "Settled" "taken") rfl)
theorem TX.n_Settled_out : NoAttr K (He.ga K "Settled") "out" := He.noat_ok (T.c.fact 89 (f := .noat "Settled" "out") rfl)
theorem TX.n_Settled_standing : NoAttr K (He.ga K "Settled") "standing" := He.noat_ok (T.c.fact 90 (f := .noat "Settled" "standing") rfl)
theorem TX.n_Settled_order : NoAttr K (He.ga K "Settled") "order" := He.noat_ok (T.c.fact 91 (f := .noat "Settled" "order") rfl)
theorem TX.m_Settled_init : Meth K (He.ga K "Settled") "__init__" (He.ma K (He.ga K "Settled") "__init__") := He.meth_ok (T.c.fact 92 (f := .meth "Settled" "__init__") rfl)
theorem TX.m_Settled_eq : Meth K (He.ga K "Settled") "__eq__" (He.ma K (He.ga K "Settled") "__eq__") := He.meth_ok (T.c.fact 93 (f := .meth "Settled" "__eq__") rfl)
theorem TX.m_Settled_shows : Meth K (He.ga K "Settled") "shows" (He.ma K (He.ga K "Settled") "shows") := He.meth_ok (T.c.fact 94 (f := .meth "Settled" "shows") rfl)
theorem TX.e_BadStanding : PySem.W.excIn K (He.ga K "BadStanding") He.veBase "ValueError.__new__" = true ∧ PySem.W.keepIn K (.ref (He.ga K "BadStanding")) = true ∧ PySem.W.subIn K (.ref (He.ga K "BadStanding")) (.type "BaseException") = some true ∧
    PySem.W.typeIn K (.ref (He.ga K "BadStanding")) = some (.type "type") := He.exc_ok (T.c.fact 95 (f := .exc "BadStanding") rfl)
theorem TX.e_BadBalls : PySem.W.excIn K (He.ga K "BadBalls") He.veBase "ValueError.__new__" = true ∧ PySem.W.keepIn K (.ref (He.ga K "BadBalls")) = true ∧ PySem.W.subIn K (.ref (He.ga K "BadBalls")) (.type "BaseException") = some true ∧
    PySem.W.typeIn K (.ref (He.ga K "BadBalls")) = some (.type "type") := He.exc_ok (T.c.fact 96 (f := .exc "BadBalls") rfl)
theorem TX.e_NeverEnds : PySem.W.excIn K (He.ga K "NeverEnds") He.veBase "ValueError.__new__" = true ∧ PySem.W.keepIn K (.ref (He.ga K "NeverEnds")) = true ∧ PySem.W.subIn K (.ref (He.ga K "NeverEnds")) (.type "BaseException") = some true ∧
    PySem.W.typeIn K (.ref (He.ga K "NeverEnds")) = some (.type "type") := He.exc_ok (T.c.fact 97 (f := .exc "NeverEnds") rfl)
theorem TX.x_BadStanding : PySem.W.exmOne K (.ref (He.ga K "BadStanding")) (.ref (He.ga K "BadStanding")) = some true := He.exm_ok (T.c.fact 98 (f := .exm "BadStanding" "BadStanding" true) rfl)
theorem TX.x_BadBalls : PySem.W.exmOne K (.ref (He.ga K "BadBalls")) (.ref (He.ga K "BadBalls")) = some true := He.exm_ok (T.c.fact 99 (f := .exm "BadBalls" "BadBalls" true) rfl)
theorem TX.x_NeverEnds : PySem.W.exmOne K (.ref (He.ga K "NeverEnds")) (.ref (He.ga K "NeverEnds")) = some true := He.exm_ok (T.c.fact 100 (f := .exm "NeverEnds" "NeverEnds" true) rfl)
theorem TX.x_BadOrder : PySem.W.exmOne K (.ref (He.ga K "BadOrder")) (.ref (He.ga K "BadOrder")) = some true := He.exm_ok (T.c.fact 101 (f := .exm "BadOrder" "BadOrder" true) rfl)
theorem TX.k_minors_of : PySem.W.keepIn K (.ref (He.ga K "minors_of")) = true := He.keep_ok (T.c.fact 102 (f := .keep "minors_of") rfl)
theorem TX.k_is_number : PySem.W.keepIn K (.ref (He.ga K "is_number")) = true := He.keep_ok (T.c.fact 103 (f := .keep "is_number") rfl)
theorem TX.k_is_name : PySem.W.keepIn K (.ref (He.ga K "is_name")) = true := He.keep_ok (T.c.fact 104 (f := .keep "is_name") rfl)
theorem TX.k_is_row : PySem.W.keepIn K (.ref (He.ga K "is_row")) = true := He.keep_ok (T.c.fact 105 (f := .keep "is_row") rfl)
theorem TX.k_is_knot : PySem.W.keepIn K (.ref (He.ga K "is_knot")) = true := He.keep_ok (T.c.fact 106 (f := .keep "is_knot") rfl)
theorem TX.k_first_wrong : PySem.W.keepIn K (.ref (He.ga K "first_wrong")) = true := He.keep_ok (T.c.fact 107 (f := .keep "first_wrong") rfl)
theorem TX.k_count : PySem.W.keepIn K (.ref (He.ga K "count")) = true := He.keep_ok (T.c.fact 108 (f := .keep "count") rfl)
theorem TX.k_check_net : PySem.W.keepIn K (.ref (He.ga K "check_net")) = true := He.keep_ok (T.c.fact 109 (f := .keep "check_net") rfl)
theorem TX.k_lattice : PySem.W.keepIn K (.ref (He.ga K "lattice")) = true := He.keep_ok (T.c.fact 110 (f := .keep "lattice") rfl)
theorem TX.k_ends : PySem.W.keepIn K (.ref (He.ga K "ends")) = true := He.keep_ok (T.c.fact 111 (f := .keep "ends") rfl)
theorem TX.k_check_balls : PySem.W.keepIn K (.ref (He.ga K "check_balls")) = true := He.keep_ok (T.c.fact 112 (f := .keep "check_balls") rfl)
theorem TX.k_begun : PySem.W.keepIn K (.ref (He.ga K "begun")) = true := He.keep_ok (T.c.fact 113 (f := .keep "begun") rfl)
theorem TX.k_settle : PySem.W.keepIn K (.ref (He.ga K "settle")) = true := He.keep_ok (T.c.fact 114 (f := .keep "settle") rfl)
theorem TX.k_played : PySem.W.keepIn K (.ref (He.ga K "played")) = true := He.keep_ok (T.c.fact 115 (f := .keep "played") rfl)
theorem TX.k_knots_in_turn : PySem.W.keepIn K (.ref (He.ga K "knots_in_turn")) = true := He.keep_ok (T.c.fact 116 (f := .keep "knots_in_turn") rfl)
theorem TX.k__law_draw : PySem.W.keepIn K (.ref (He.ga K "_law_draw")) = true := He.keep_ok (T.c.fact 117 (f := .keep "_law_draw") rfl)
theorem TX.k__law_knots : PySem.W.keepIn K (.ref (He.ga K "_law_knots")) = true := He.keep_ok (T.c.fact 118 (f := .keep "_law_knots") rfl)
theorem TX.k__law_inlets : PySem.W.keepIn K (.ref (He.ga K "_law_inlets")) = true := He.keep_ok (T.c.fact 119 (f := .keep "_law_inlets") rfl)
theorem TX.k__law_drop : PySem.W.keepIn K (.ref (He.ga K "_law_drop")) = true := He.keep_ok (T.c.fact 120 (f := .keep "_law_drop") rfl)
theorem TX.k__law_play : PySem.W.keepIn K (.ref (He.ga K "_law_play")) = true := He.keep_ok (T.c.fact 121 (f := .keep "_law_play") rfl)
theorem TX.k__law_waiting : PySem.W.keepIn K (.ref (He.ga K "_law_waiting")) = true := He.keep_ok (T.c.fact 122 (f := .keep "_law_waiting") rfl)
theorem TX.k__law_falls : PySem.W.keepIn K (.ref (He.ga K "_law_falls")) = true := He.keep_ok (T.c.fact 123 (f := .keep "_law_falls") rfl)
theorem TX.k__law_det : PySem.W.keepIn K (.ref (He.ga K "_law_det")) = true := He.keep_ok (T.c.fact 124 (f := .keep "_law_det") rfl)
theorem TX.k__law_matrix : PySem.W.keepIn K (.ref (He.ga K "_law_matrix")) = true := He.keep_ok (T.c.fact 125 (f := .keep "_law_matrix") rfl)
theorem TX.k__law_does_end : PySem.W.keepIn K (.ref (He.ga K "_law_does_end")) = true := He.keep_ok (T.c.fact 126 (f := .keep "_law_does_end") rfl)
theorem TX.k__law_refuses : PySem.W.keepIn K (.ref (He.ga K "_law_refuses")) = true := He.keep_ok (T.c.fact 127 (f := .keep "_law_refuses") rfl)
theorem TX.k__law_rounds_for : PySem.W.keepIn K (.ref (He.ga K "_law_rounds_for")) = true := He.keep_ok (T.c.fact 128 (f := .keep "_law_rounds_for") rfl)
theorem TX.k__law_is_quick : PySem.W.keepIn K (.ref (He.ga K "_law_is_quick")) = true := He.keep_ok (T.c.fact 129 (f := .keep "_law_is_quick") rfl)
theorem TX.k_law : PySem.W.keepIn K (.ref (He.ga K "law")) = true := He.keep_ok (T.c.fact 130 (f := .keep "law") rfl)
theorem TX.k_Net : PySem.W.keepIn K (.ref (He.ga K "Net")) = true := He.keep_ok (T.c.fact 131 (f := .keep "Net") rfl)
theorem TX.k_Board : PySem.W.keepIn K (.ref (He.ga K "Board")) = true := He.keep_ok (T.c.fact 132 (f := .keep "Board") rfl)
theorem TX.k_Settled : PySem.W.keepIn K (.ref (He.ga K "Settled")) = true := He.keep_ok (T.c.fact 133 (f := .keep "Settled") rfl)
theorem TX.k_BadNet : PySem.W.keepIn K (.ref (He.ga K "BadNet")) = true := He.keep_ok (T.c.fact 134 (f := .keep "BadNet") rfl)
theorem TX.k_BadStanding : PySem.W.keepIn K (.ref (He.ga K "BadStanding")) = true := He.keep_ok (T.c.fact 135 (f := .keep "BadStanding") rfl)
theorem TX.k_BadBalls : PySem.W.keepIn K (.ref (He.ga K "BadBalls")) = true := He.keep_ok (T.c.fact 136 (f := .keep "BadBalls") rfl)
theorem TX.k_BadOrder : PySem.W.keepIn K (.ref (He.ga K "BadOrder")) = true := He.keep_ok (T.c.fact 137 (f := .keep "BadOrder") rfl)
theorem TX.k_NeverEnds : PySem.W.keepIn K (.ref (He.ga K "NeverEnds")) = true := He.keep_ok (T.c.fact 138 (f := .keep "NeverEnds") rfl)
theorem TX.fn_minors_of : ∃ fd, FunD K "minors_of" "minors_of" (defArgs s_minors_of) (defBody s_minors_of) (defScope s_minors_of) [] [] (He.ga K "minors_of") fd := T.c.def_ 0 (d := K1.d_minors_of) rfl
theorem TX.fn_is_number : ∃ fd, FunD K "is_number" "is_number" (defArgs s_is_number) (defBody s_is_number) (defScope s_is_number) [] [] (He.ga K "is_number") fd := T.c.def_ 1 (d := K1.d_is_number) rfl
theorem TX.fn_is_name : ∃ fd, FunD K "is_name" "is_name" (defArgs s_is_name) (defBody s_is_name) (defScope s_is_name) [] [] (He.ga K "is_name") fd := T.c.def_ 2 (d := K1.d_is_name) rfl
theorem TX.fn_is_row : ∃ fd, FunD K "is_row" "is_row" (defArgs s_is_row) (defBody s_is_row) (defScope s_is_row) [] [] (He.ga K "is_row") fd := T.c.def_ 3 (d := K1.d_is_row) rfl
theorem TX.fn_is_knot : ∃ fd, FunD K "is_knot" "is_knot" (defArgs s_is_knot) (defBody s_is_knot) (defScope s_is_knot) [] [] (He.ga K "is_knot") fd := T.c.def_ 4 (d := K1.d_is_knot) rfl
theorem TX.fn_first_wrong : ∃ fd, FunD K "first_wrong" "first_wrong" (defArgs s_first_wrong) (defBody s_first_wrong) (defScope s_first_wrong) [] [] (He.ga K "first_wrong") fd := T.c.def_ 5 (d := K1.d_first_wrong) rfl
theorem TX.fn_Net_init : ∃ fd, FunD K "__init__" "Net.__init__" (defArgs s_Net_init) (defBody s_Net_init) (defScope s_Net_init) [] [] (He.ma K (He.ga K "Net") "__init__") fd := T.c.def_ 6 (d := K1.d_Net_init) rfl
theorem TX.fn_Net_eq : ∃ fd, FunD K "__eq__" "Net.__eq__" (defArgs s_Net_eq) (defBody s_Net_eq) (defScope s_Net_eq) [] [] (He.ma K (He.ga K "Net") "__eq__") fd := T.c.def_ 7 (d := K1.d_Net_eq) rfl
theorem TX.fn_Net_len : ∃ fd, FunD K "__len__" "Net.__len__" (defArgs s_Net_len) (defBody s_Net_len) (defScope s_Net_len) [] [] (He.ma K (He.ga K "Net") "__len__") fd := T.c.def_ 8 (d := K1.d_Net_len) rfl
theorem TX.fn_Net_contains : ∃ fd, FunD K "__contains__" "Net.__contains__" (defArgs s_Net_contains) (defBody s_Net_contains) (defScope s_Net_contains) [] [] (He.ma K (He.ga K "Net") "__contains__") fd := T.c.def_ 9 (d := K1.d_Net_contains) rfl
theorem TX.fn_Net_met : ∃ fd, FunD K "met" "Net.met" (defArgs s_Net_met) (defBody s_Net_met) (defScope s_Net_met) [] [] (He.ma K (He.ga K "Net") "met") fd := T.c.def_ 10 (d := K1.d_Net_met) rfl
theorem TX.fn_Net_start : ∃ fd, FunD K "start" "Net.start" (defArgs s_Net_start) (defBody s_Net_start) (defScope s_Net_start) [] [] (He.ma K (He.ga K "Net") "start") fd := T.c.def_ 11 (d := K1.d_Net_start) rfl
theorem TX.fn_Net_front : ∃ fd, FunD K "front" "Net.front" (defArgs s_Net_front) (defBody s_Net_front) (defScope s_Net_front) [] [] (He.ma K (He.ga K "Net") "front") fd := T.c.def_ 12 (d := K1.d_Net_front) rfl
theorem TX.fn_Net_period : ∃ fd, FunD K "period" "Net.period" (defArgs s_Net_period) (defBody s_Net_period) (defScope s_Net_period) [] [] (He.ma K (He.ga K "Net") "period") fd := T.c.def_ 13 (d := K1.d_Net_period) rfl
theorem TX.fn_Net_turned : ∃ fd, FunD K "turned" "Net.turned" (defArgs s_Net_turned) (defBody s_Net_turned) (defScope s_Net_turned) [] [] (He.ma K (He.ga K "Net") "turned") fd := T.c.def_ 14 (d := K1.d_Net_turned) rfl
theorem TX.fn_Net_check_standing : ∃ fd, FunD K "check_standing" "Net.check_standing" (defArgs s_Net_check_standing) (defBody s_Net_check_standing) (defScope s_Net_check_standing) [] [] (He.ma K (He.ga K "Net") "check_standing") fd := T.c.def_ 15 (d := K1.d_Net_check_standing) rfl
theorem TX.fn_Net_place_behind : ∃ fd, FunD K "place_behind" "Net.place_behind" (defArgs s_Net_place_behind) (defBody s_Net_place_behind) (defScope s_Net_place_behind) [] [] (He.ma K (He.ga K "Net") "place_behind") fd := T.c.def_ 16 (d := K1.d_Net_place_behind) rfl
theorem TX.fn_Net_dropped : ∃ fd, FunD K "dropped" "Net.dropped" (defArgs s_Net_dropped) (defBody s_Net_dropped) (defScope s_Net_dropped) [] [] (He.ma K (He.ga K "Net") "dropped") fd := T.c.def_ 17 (d := K1.d_Net_dropped) rfl
theorem TX.fn_count : ∃ fd, FunD K "count" "count" (defArgs s_count) (defBody s_count) (defScope s_count) [] [] (He.ga K "count") fd := T.c.def_ 18 (d := K1.d_count) rfl
theorem TX.fn_check_net : ∃ fd, FunD K "check_net" "check_net" (defArgs s_check_net) (defBody s_check_net) (defScope s_check_net) [] [] (He.ga K "check_net") fd := T.c.def_ 19 (d := K1.d_check_net) rfl
theorem TX.fn_lattice : ∃ fd, FunD K "lattice" "lattice" (defArgs s_lattice) (defBody s_lattice) (defScope s_lattice) [] [] (He.ga K "lattice") fd := T.c.def_ 20 (d := K1.d_lattice) rfl
theorem TX.fn_ends : ∃ fd, FunD K "ends" "ends" (defArgs s_ends) (defBody s_ends) (defScope s_ends) [] [] (He.ga K "ends") fd := T.c.def_ 21 (d := K1.d_ends) rfl
theorem TX.fn_check_balls : ∃ fd, FunD K "check_balls" "check_balls" (defArgs s_check_balls) (defBody s_check_balls) (defScope s_check_balls) [] [] (He.ga K "check_balls") fd := T.c.def_ 22 (d := K1.d_check_balls) rfl
theorem TX.fn_Board_init : ∃ fd, FunD K "__init__" "Board.__init__" (defArgs s_Board_init) (defBody s_Board_init) (defScope s_Board_init) [] [] (He.ma K (He.ga K "Board") "__init__") fd := T.c.def_ 23 (d := K1.d_Board_init) rfl
theorem TX.fn_Board_take : ∃ fd, FunD K "take" "Board.take" (defArgs s_Board_take) (defBody s_Board_take) (defScope s_Board_take) [] [] (He.ma K (He.ga K "Board") "take") fd := T.c.def_ 24 (d := K1.d_Board_take) rfl
theorem TX.fn_Board_first_waiting : ∃ fd, FunD K "first_waiting" "Board.first_waiting" (defArgs s_Board_first_waiting) (defBody s_Board_first_waiting) (defScope s_Board_first_waiting) [] [] (He.ma K (He.ga K "Board") "first_waiting") fd := T.c.def_ 25 (d := K1.d_Board_first_waiting) rfl
theorem TX.fn_Board_follow : ∃ fd, FunD K "follow" "Board.follow" (defArgs s_Board_follow) (defBody s_Board_follow) (defScope s_Board_follow) [] [] (He.ma K (He.ga K "Board") "follow") fd := T.c.def_ 26 (d := K1.d_Board_follow) rfl
theorem TX.fn_Settled_init : ∃ fd, FunD K "__init__" "Settled.__init__" (defArgs s_Settled_init) (defBody s_Settled_init) (defScope s_Settled_init) [] [] (He.ma K (He.ga K "Settled") "__init__") fd := T.c.def_ 27 (d := K1.d_Settled_init) rfl
theorem TX.fn_Settled_eq : ∃ fd, FunD K "__eq__" "Settled.__eq__" (defArgs s_Settled_eq) (defBody s_Settled_eq) (defScope s_Settled_eq) [] [] (He.ma K (He.ga K "Settled") "__eq__") fd := T.c.def_ 28 (d := K1.d_Settled_eq) rfl
theorem TX.fn_Settled_shows : ∃ fd, FunD K "shows" "Settled.shows" (defArgs s_Settled_shows) (defBody s_Settled_shows) (defScope s_Settled_shows) [.non] [] (He.ma K (He.ga K "Settled") "shows") fd := T.c.def_ 29 (d := K1.d_Settled_shows) rfl
theorem TX.fn_begun : ∃ fd, FunD K "begun" "begun" (defArgs s_begun) (defBody s_begun) (defScope s_begun) [] [] (He.ga K "begun") fd := T.c.def_ 30 (d := K1.d_begun) rfl
theorem TX.fn_settle : ∃ fd, FunD K "settle" "settle" (defArgs s_settle) (defBody s_settle) (defScope s_settle) [.non] [] (He.ga K "settle") fd := T.c.def_ 31 (d := K1.d_settle) rfl
theorem TX.fn_played : ∃ fd, FunD K "played" "played" (defArgs s_played) (defBody s_played) (defScope s_played) [.non] [] (He.ga K "played") fd := T.c.def_ 32 (d := K1.d_played) rfl
theorem TX.fn_knots_in_turn : ∃ fd, FunD K "knots_in_turn" "knots_in_turn" (defArgs s_knots_in_turn) (defBody s_knots_in_turn) (defScope s_knots_in_turn) [.non] [] (He.ga K "knots_in_turn") fd := T.c.def_ 33 (d := K1.d_knots_in_turn) rfl
theorem TX.fn_law_draw : ∃ fd, FunD K "_law_draw" "_law_draw" (defArgs s_law_draw) (defBody s_law_draw) (defScope s_law_draw) [] [] (He.ga K "_law_draw") fd := T.c.def_ 34 (d := K1.d_law_draw) rfl
theorem TX.fn_law_knots : ∃ fd, FunD K "_law_knots" "_law_knots" (defArgs s_law_knots) (defBody s_law_knots) (defScope s_law_knots) [] [] (He.ga K "_law_knots") fd := T.c.def_ 35 (d := K1.d_law_knots) rfl
theorem TX.fn_law_inlets : ∃ fd, FunD K "_law_inlets" "_law_inlets" (defArgs s_law_inlets) (defBody s_law_inlets) (defScope s_law_inlets) [] [] (He.ga K "_law_inlets") fd := T.c.def_ 36 (d := K1.d_law_inlets) rfl
theorem TX.fn_law_drop : ∃ fd, FunD K "_law_drop" "_law_drop" (defArgs s_law_drop) (defBody s_law_drop) (defScope s_law_drop) [] [] (He.ga K "_law_drop") fd := T.c.def_ 37 (d := K1.d_law_drop) rfl
theorem TX.fn_law_play : ∃ fd, FunD K "_law_play" "_law_play" (defArgs s_law_play) (defBody s_law_play) (defScope s_law_play) [] [] (He.ga K "_law_play") fd := T.c.def_ 38 (d := K1.d_law_play) rfl
theorem TX.fn_law_waiting : ∃ fd, FunD K "_law_waiting" "_law_waiting" (defArgs s_law_waiting) (defBody s_law_waiting) (defScope s_law_waiting) [] [] (He.ga K "_law_waiting") fd := T.c.def_ 39 (d := K1.d_law_waiting) rfl
theorem TX.fn_law_falls : ∃ fd, FunD K "_law_falls" "_law_falls" (defArgs s_law_falls) (defBody s_law_falls) (defScope s_law_falls) [] [] (He.ga K "_law_falls") fd := T.c.def_ 40 (d := K1.d_law_falls) rfl
theorem TX.fn_law_det : ∃ fd, FunD K "_law_det" "_law_det" (defArgs s_law_det) (defBody s_law_det) (defScope s_law_det) [] [] (He.ga K "_law_det") fd := T.c.def_ 41 (d := K1.d_law_det) rfl
theorem TX.fn_law_matrix : ∃ fd, FunD K "_law_matrix" "_law_matrix" (defArgs s_law_matrix) (defBody s_law_matrix) (defScope s_law_matrix) [] [] (He.ga K "_law_matrix") fd := T.c.def_ 42 (d := K1.d_law_matrix) rfl
theorem TX.fn_law_does_end : ∃ fd, FunD K "_law_does_end" "_law_does_end" (defArgs s_law_does_end) (defBody s_law_does_end) (defScope s_law_does_end) [] [] (He.ga K "_law_does_end") fd := T.c.def_ 43 (d := K1.d_law_does_end) rfl
theorem TX.fn_law_refuses : ∃ fd, FunD K "_law_refuses" "_law_refuses" (defArgs s_law_refuses) (defBody s_law_refuses) (defScope s_law_refuses) [] [] (He.ga K "_law_refuses") fd := T.c.def_ 44 (d := K1.d_law_refuses) rfl
theorem TX.fn_law_rounds_for : ∃ fd, FunD K "_law_rounds_for" "_law_rounds_for" (defArgs s_law_rounds_for) (defBody s_law_rounds_for) (defScope s_law_rounds_for) [] [] (He.ga K "_law_rounds_for") fd := T.c.def_ 45 (d := K1.d_law_rounds_for) rfl
theorem TX.fn_law_is_quick : ∃ fd, FunD K "_law_is_quick" "_law_is_quick" (defArgs s_law_is_quick) (defBody s_law_is_quick) (defScope s_law_is_quick) [] [] (He.ga K "_law_is_quick") fd := T.c.def_ 46 (d := K1.d_law_is_quick) rfl
theorem TX.fn_law : ∃ fd, FunD K "law" "law" (defArgs s_law) (defBody s_law) (defScope s_law) [] [] (He.ga K "law") fd := T.c.def_ 47 (d := K1.d_law) rfl
theorem TX.o_Net {H : Hp} {a dx : Addr} {fs : List (Str × V)} (h : H a = some (.ins (He.ga K "Net") dx fs)) : TyOf K H (.ref a) (.ref (He.ga K "Net")) :=
  .ins h T.c_Net (He.eqO_ok (exB_at T.ex 0 rfl)) (He.eqO_ok (exB_at T.ex 2 rfl)) (of_decide_eq_true (exB_at T.ex 3 rfl)) (of_decide_eq_true (exB_at T.ex 4 rfl))
theorem TX.o_Settled {H : Hp} {a dx : Addr} {fs : List (Str × V)} (h : H a = some (.ins (He.ga K "Settled") dx fs)) : TyOf K H (.ref a) (.ref (He.ga K "Settled")) :=
  .ins h T.c_Settled (He.eqO_ok (exB_at T.ex 1 rfl)) (He.eqO_ok (exB_at T.ex 2 rfl)) (of_decide_eq_true (exB_at T.ex 3 rfl)) (of_decide_eq_true (exB_at T.ex 5 rfl))
end
def EX (X : Cx) (e : Expr) : TE := fun σ H Q => ∃ t, PE X e t ∧ t σ H Q
theorem EX.pe {X : Cx} {e : Expr} : PE X e (EX X e) := ⟨fun pins s σ H Q I h => h.elim fun _ q => q.1.run pins s σ H Q I q.2⟩
def SX (X : Cx) (st : Stmt) : TS := fun D σ H => ∃ t, PS X st t ∧ t D σ H
theorem SX.ps {X : Cx} {st : Stmt} : PS X st (SX X st) := ⟨fun pins s σ H D I h => h.elim fun _ q => q.1.run pins s σ H D I q.2⟩
def SSX (X : Cx) (sts : List Stmt) : TS := fun D σ H => ∃ t, PSs X sts t ∧ t D σ H
theorem SSX.ps {X : Cx} {sts : List Stmt} : PSs X sts (SSX X sts) := ⟨fun pins s σ H D I h => h.elim fun _ q => q.1.run pins s σ H D I q.2⟩
theorem ssx_nil {X : Cx} {D : Ends} {σ : St} {H : Hp} (h : D.nx σ H) : SSX X [] D σ H := ⟨_, pss_nil, h⟩
theorem ssx_cons {X : Cx} {st : Stmt} {rest : List Stmt} {t : TS} {D : Ends} {σ : St} {H : Hp} (h : PS X st t) (q : t { D with nx := SSX X rest D } σ H) : SSX X (st :: rest) D σ H := ⟨_, pss_cons h SSX.ps, q⟩
theorem SSX.mono {X : Cx} {sts : List Stmt} {D D' : Ends} {σ : St} {H : Hp} (h : SSX X sts D σ H) (h1 : ∀ σ H, D.nx σ H → D'.nx σ H) (h2 : ∀ v H, D.rt v H → D'.rt v H) (h3 : ∀ σ H, D.bk σ H → D'.bk σ H) (h4 : ∀ σ H, D.ct σ H → D'.ct σ H) : SSX X sts D' σ H := by
  refine ⟨fun D2 σ2 H2 => D2 = D' ∧ SSX X sts D σ2 H2, ⟨fun pins s σ H D2 I q => ?_⟩, rfl, h⟩
  obtain ⟨rfl, q⟩ := q
  refine thn (SSX.ps.run pins s σ H D I q) fun f s1 z => ?_
  cases f with
  | next => obtain ⟨σ', H', I', z⟩ := z; exact ⟨σ', H', I', h1 _ _ z⟩
  | brk => obtain ⟨σ', H', I', z⟩ := z; exact ⟨σ', H', I', h3 _ _ z⟩
  | cont => obtain ⟨σ', H', I', z⟩ := z; exact ⟨σ', H', I', h4 _ _ z⟩
  | ret u => obtain ⟨v, σ', H', I', r, z⟩ := z; exact ⟨v, σ', H', I', r, h2 _ _ z⟩
structure Fok (P : Program) (w : World) (K : PySem.W.Frag) (mg : Str → Option Value) (base : Heap) (CX : CXT) (k : Nat) (f : Addr) (ps : List Str) (dvs : List V) (sp : Sp) : Prop where
  ex : ∃ fd ds, FnOk P w K mg base CX k f fd ps sp ∧ Binds K fd ps ds ∧ Vals dvs ds
  kp : PySem.W.keepIn K (.ref f) = true
section
variable {X : Cx} {CX : CXT} {k : Nat} {f C : Addr} {ps : List Str} {dvs : List V} {sp : Sp} {E : XK} {x m : Str} {p pos apos : Pos} {e o : Expr} {es : List Expr} {ta : TE} {t : TA}
theorem pe_callF (F : Fok X.prog X.w X.K X.mg X.base CX k f ps dvs sp) (hr : Room k X.A) (hg : Gl X x) (hm : X.mg x = some (.ref f)) (hx : Passes CX X E)
    (ha : PA X (e :: es) t) (hdb : (x == ("__debug__" : Str)) = false := by decide) (he : starEach (e :: es) X.env = (false, eval e X.env) :: starEach es X.env := by rfl) (hpl : (backTo pos (starEach es X.env)).any (·.1) = false := by rfl) :
    PE X (.Call (.Name x p) (e :: es) [] pos) (tCall sp dvs E t) :=
  F.ex.elim fun _ h => h.elim fun _ h => pe_call h.1 hr hg hm F.kp h.2.1 h.2.2 hx ha hdb he hpl
theorem pe_methF {pl : Sem Bool} (he : PE X o ta) (c : Cls X.K C) (hm : Meth X.K C m f) (F : Fok X.prog X.w X.K X.mg X.base CX k f ps dvs sp) (hr : Room k X.A) (hx : Passes CX X E) (ha : PA X (e :: es) t)
    (hc : eval (.Call (.Attribute o m apos) (e :: es) [] pos) X.env = (do
      let ov ← eval o X.env
      standAt apos.atName
      let (f, first) ← holding [ov] (getMethod ov m pl)
      callWith pos f first (backTo pos (starEach (e :: es) X.env)) (backToKw pos (keywordEach [] X.env))) := by rfl)
    (hs : starEach (e :: es) X.env = (false, eval e X.env) :: starEach es X.env := by rfl) (hpl : (backTo pos (starEach es X.env)).any (·.1) = false := by rfl) :
    PE X (.Call (.Attribute o m apos) (e :: es) [] pos) (tMeth C m sp dvs E ta t) :=
  F.ex.elim fun _ h => h.elim fun _ h => pe_meth he c hm h.1 hr h.2.1 h.2.2 hx ha hs hpl hc
theorem pe_meth0F {pl : Sem Bool} (he : PE X o ta) (c : Cls X.K C) (hm : Meth X.K C m f) (F : Fok X.prog X.w X.K X.mg X.base CX k f ps dvs sp) (hr : Room k X.A) (hx : Passes CX X E)
    (hc : eval (.Call (.Attribute o m apos) [] [] pos) X.env = (do
      let ov ← eval o X.env
      standAt apos.atName
      let (f, first) ← holding [ov] (getMethod ov m pl)
      callWith pos f first (backTo pos (starEach [] X.env)) (backToKw pos (keywordEach [] X.env))) := by rfl) :
    PE X (.Call (.Attribute o m apos) [] [] pos) (tMeth C m sp dvs E ta tNil) :=
  F.ex.elim fun _ h => h.elim fun _ h => pe_meth0 he c hm h.1 hr h.2.1 h.2.2 hx hc
theorem pe_makeF (M : Mk X.K C f) (F : Fok X.prog X.w X.K X.mg X.base CX k f ps dvs sp) (hr : Room (k + 1) X.A) (hg : Gl X x) (hm : X.mg x = some (.ref C)) (hx : Passes CX X E)
    (ha : PA X (e :: es) t) (hdb : (x == ("__debug__" : Str)) = false := by decide) (he : starEach (e :: es) X.env = (false, eval e X.env) :: starEach es X.env := by rfl) (hpl : (backTo pos (starEach es X.env)).any (·.1) = false := by rfl) :
    PE X (.Call (.Name x p) (e :: es) [] pos) (tMake C sp dvs E t) :=
  F.ex.elim fun _ h => h.elim fun _ h => pe_make M h.1 hr hg hm h.2.1 h.2.2 hx ha hdb he hpl
end
end K1
namespace K1
open PySem PySem.Spec L2
open PyProof.Rows hiding St
abbrev s_BO : Stmt := inClass (top 7) 0
abbrev bC (K : PySem.W.Frag) : Addr := He.ga K "BadOrder"
abbrev bF (K : PySem.W.Frag) : Addr := He.ma K (bC K) "__init__"
def oexB (K : PySem.W.Frag) (C : Addr) : Bool := match K.lookup C with
  | some ⟨.type "type", _, .cls cd, sl⟩ => (match cd.mro, sl.toList with
    | .ref C' :: bm, [_, _, _, _, some (.builtin n), _] => C' == C && n == "ValueError.__new__" && !cd.hasDel && cd.hasDict && PySem.HandSPX.refsVE bm
    | _, _ => false)
  | _ => false
theorem oexB_ok {K : PySem.W.Frag} {C : Addr} (h : oexB K C = true) : ∃ nm q N bs bm sn sub ab col dd k0 k1 k2 k3 k5, K.lookup C = some (excClassObj nm q C N bs bm true sn sub ab col dd k0 k1 k2 k3 k5 "ValueError.__new__") ∧ PySem.HandSPX.refsVE bm = true := by
  unfold oexB at h
  split at h
  · rename_i dd cd sl ho
    split at h
    · rename_i C' bm k0 k1 k2 k3 n k5 hm hs
      simp only [Bool.and_eq_true, beq_iff_eq, Bool.not_eq_true'] at h
      obtain ⟨⟨⟨⟨e1, e2⟩, hdel⟩, hdd⟩, hr⟩ := h
      obtain ⟨nm, bs, mro, ns, qn, hd, sn, sub, ab, col, del⟩ := cd
      dsimp only at hm hdel hdd
      subst e1 e2 hm hdel hdd
      have hsl : sl = #[k0, k1, k2, k3, some (.builtin "ValueError.__new__"), k5] := by
        obtain ⟨l⟩ := sl
        simp only at hs
        rw [hs]
      subst hsl
      exact ⟨nm, qn, ns, bs, bm, sn, sub, ab, col, dd, k0, k1, k2, k3, k5, ho, hr⟩
    · cases h
  · cases h
abbrev FnB : Type := Option (Str × Str × Arguments × FuncBody × Scope × Addr × List Str × Addr × Option Addr)
def fnB (K : PySem.W.Frag) : FnB := match K.lookup (bF K) with
  | some ⟨_, _, .func fd, _⟩ => some (fd.name, fd.qualname, fd.params, fd.body, fd.scope, fd.globals, fd.closure.map Prod.fst, fd.builtins, fd.annotations)
  | _ => none
def fnBv : FnB := some ("__init__", "BadOrder.__init__", defArgs s_BO, .stmts (defBody s_BO), defScope s_BO, mainGlobals, ["__class__"], builtinsNs, none)
def isNn : Value → Bool
  | .none => true
  | _ => false
theorem isNn_ok {v : Value} (h : isNn v = true) : v = .none := by
  cases v <;> first | rfl | cases h
def boCode (K : PySem.W.Frag) (file : Str) (cd : Value) : Bool := match cd with
  | .ref c => (match K.lookup c with
    | some ⟨_, _, .fields vs, _⟩ => (match (vs[2]? : Option Value) with
      | some (.str f _) => decide (f = file)
      | _ => false)
    | _ => false)
  | _ => false
theorem boCode_ok {K : PySem.W.Frag} {file : Str} {cd : Value} (h : boCode K file cd = true) : ∃ c oc od vs sl t, cd = .ref c ∧ K.lookup c = some ⟨oc, od, .fields vs, sl⟩ ∧ vs[2]? = some (.str file t) := by
  unfold boCode at h
  split at h
  · rename_i c
    split at h
    · rename_i oc od vs sl e1
      split at h
      · rename_i f t e2
        obtain rfl := of_decide_eq_true h
        exact ⟨c, oc, od, vs, sl, t, rfl, e1, e2⟩
      · cases h
    · cases h
  · cases h
def boCell (K : PySem.W.Frag) (C c : Addr) : Bool := match K.lookup c with
  | some ⟨_, _, .cell (some (.ref b)), _⟩ => decide (b = C)
  | _ => false
theorem boCell_ok {K : PySem.W.Frag} {C c : Addr} (h : boCell K C c = true) : ∃ oc od sl, K.lookup c = some ⟨oc, od, .cell (some (.ref C)), sl⟩ := by
  unfold boCell at h
  split at h
  · rename_i oc od b sl e
    obtain rfl := of_decide_eq_true h
    exact ⟨oc, od, sl, e⟩
  · cases h
def boFd (K : PySem.W.Frag) (file : Str) (fd : FuncData) : Bool := isNn fd.defaults && (isNn fd.kwdefaults && (PySem.W.codeIn K fd.code "BadOrder.__init__" && (boCode K file fd.code && fd.closure.all fun q => boCell K (bC K) q.2)))
def boFn (K : PySem.W.Frag) (file : Str) : Bool := match K.lookup (bF K) with
  | some ⟨_, _, .func fd, _⟩ => boFd K file fd
  | _ => false
def boL (P : Program) (K : PySem.W.Frag) : List Bool := [
  oexB K (bC K),
  He.eqO (PySem.W.findIn K (.ref (bC K)) "__setattr__") (some (some (.builtin "object.__setattr__"))),
  decide (PySem.W.subIn K (.ref (bC K)) (.type "BaseException") = some true),
  decide (PySem.W.typeIn K (.ref (bC K)) = some (.type "type")),
  PySem.W.keepIn K (.ref (bC K)),
  He.eqO (PySem.W.findIn K (.ref (bC K)) "place") (some none),
  He.eqO (PySem.W.findIn K (.ref (bC K)) "__init__") (some (some (.ref (bF K)))),
  decide (PySem.W.typeIn K (.ref (bF K)) = some (.type "function")),
  decide (PySem.W.mroIn K (bC K) (.ref (bC K)) = some true),
  He.eqO (PySem.W.nsIn K mainGlobals "super") (some none),
  He.eqO (PySem.W.nsIn K cStatics "thirdparty.any") (some none),
  He.eqO (PySem.W.ks_superIn K (bC K) (bC K) "__init__") (some (some (.builtin "ValueError.__init__"))),
  decide (PySem.W.subIn K (.ref (bC K)) (.type "ValueError") = some true),
  boFn K P.main.file,
  !(P.main.scope.names.lookup ("super" : Str)).isSome,
  xfB K (bC K)]
def boB (P : Program) (K : PySem.W.Frag) : Bool := (boL P K).all id
structure BoOk (P : Program) (K : PySem.W.Frag) : Prop where
  says : fnB K = fnBv
  all : boB P K = true
section
variable {P : Program} {w : World} {K : PySem.W.Frag} {mg : Str → Option Value} {base : Heap}
theorem BoOk.at (B : BoOk P K) (i : Nat) {b : Bool} (e : (boL P K)[i]? = some b) : b = true := List.all_eq_true.mp B.all b (List.mem_of_getElem? e)
theorem BoOk.oex (B : BoOk P K) : OexC K (bC K) where
  cls := oexB_ok (B.at 0 rfl)
  sa := He.eqO_ok (B.at 1 rfl)
  exC := of_decide_eq_true (B.at 2 rfl)
  tyC := of_decide_eq_true (B.at 3 rfl)
  kC := B.at 4 rfl
theorem BoOk.xf (B : BoOk P K) : XfC K (bC K) := xfB_ok (B.at 15 rfl)
theorem BoOk.noPlace (B : BoOk P K) : PySem.W.findIn K (.ref (bC K)) "place" = some none := He.eqO_ok (B.at 5 rfl)
theorem BoOk.fn (B : BoOk P K) : ∃ oc od sl doc pm ct cda cc, K.lookup (bF K) = some ⟨oc, od, .func (PySem.W.fnX "__init__" "BadOrder.__init__" (defArgs s_BO) (defBody s_BO) (defScope s_BO) [("__class__", cc)] .none .none doc pm none (.ref cda) ct), sl⟩ ∧
    PySem.W.codeIn K (.ref cda) "BadOrder.__init__" = true ∧ (∃ oc od vs sl t, K.lookup cda = some ⟨oc, od, .fields vs, sl⟩ ∧ vs[2]? = some (.str P.main.file t)) ∧ ∃ oc od sl, K.lookup cc = some ⟨oc, od, .cell (some (.ref (bC K))), sl⟩ := by
  have h1 : boFn K P.main.file = true := B.at 13 rfl
  have h2 := B.says
  unfold boFn at h1
  unfold fnB fnBv at h2
  cases q : K.lookup (bF K) with
  | none =>
    rw [q] at h1
    cases h1
  | some o =>
    obtain ⟨oc, od, dt, sl⟩ := o
    rw [q] at h1 h2
    cases dt with
    | func fd =>
      obtain ⟨n1, n2, n3, n4, n5, n6, n7, n8, n9, n10, n11, n12, n13, n14, n15⟩ := fd
      have e2 : (some (n1, n2, n3, n4, n5, n6, n7.map Prod.fst, n15, n12) : FnB) = (some ("__init__", "BadOrder.__init__", defArgs s_BO, .stmts (defBody s_BO), defScope s_BO, mainGlobals, ["__class__"], builtinsNs, none) : FnB) := h2
      simp only [Option.some.injEq, Prod.mk.injEq] at e2
      obtain ⟨r1, r2, r3, r4, r5, r6, r7, r8, r9⟩ := e2
      subst r1 r2 r3 r4 r5 r6 r8 r9
      have h3 : (isNn n8 && (isNn n9 && (PySem.W.codeIn K n13 "BadOrder.__init__" && (boCode K P.main.file n13 && n7.all fun q => boCell K (bC K) q.2)))) = true := h1
      obtain ⟨a1, h3⟩ := He.ba h3
      obtain ⟨a2, h3⟩ := He.ba h3
      obtain ⟨a3, h3⟩ := He.ba h3
      obtain ⟨a4, a5⟩ := He.ba h3
      obtain rfl := isNn_ok a1
      obtain rfl := isNn_ok a2
      obtain ⟨cda, oc1, od1, vs1, sl1, t1, rfl, l1, l2⟩ := boCode_ok a4
      match n7, r7, a5 with
      | [(x, cc)], r7, a5 =>
        have ex : x = "__class__" := by simpa using r7
        subst ex
        have a6 : boCell K (bC K) cc = true := by simpa using a5
        exact ⟨oc, od, sl, n10, n11, n14, cda, cc, rfl, a3, ⟨oc1, od1, vs1, sl1, t1, l1, l2⟩, boCell_ok a6⟩
    | _ => cases h1
end
end K1
namespace K1
open PySem PySem.Spec L2
open PyProof.Rows hiding St
def nmA : List PySem.Str := ["__name__", "minors_of", "ChuteError", "BadNet", "BadStanding", "BadBalls", "BadOrder", "NeverEnds", "MOST_KNOTS", "MOST_DROPS", "MOST_TARGETS", "MOST_SIGNS", "is_number", "is_name", "is_row", "is_knot", "first_wrong", "Net", "count", "check_net", "lattice", "ends", "check_balls", "Board", "Settled", "begun", "settle", "played", "knots_in_turn", "_law_draw"]
def nmB : List PySem.Str := ["_law_knots", "_law_inlets", "_law_drop", "_law_play", "_law_waiting", "_law_falls", "_law_det", "_law_matrix", "_law_does_end", "_law_refuses", "_law_rounds_for", "_law_is_quick"]
def names : List PySem.Str := nmA ++ nmB
abbrev R : PySem.W.OpenRow := PySem.W.OpenLaw.row PySem.Challenge.rw_ballchutes_k01_whole_orders
abbrev AlX : Type := He.AlD × Bool × FnB
def asX (g : Addr → Option Obj) : Nat → List Addr
  | 0 => [mainGlobals, cStatics]
  | n + 1 => He.growD g (asX g n)
def obsX (K : PySem.W.Frag) : AlX := (He.obsD fa fn K, exB K && boB R.prog K, fnB K)
def valX : AlX := (He.valD fn, true, fnBv)
def obsXG (g : Addr → Option Obj) : AlX := obsX (He.frG g (asX g 6))
def hk : PySem.W.Hook where
  α := AlX
  obs := fun s => obsXG s.heap.get?
  val := fun _ => valX
  says := fun _ h => ∃ K : PySem.W.Frag, K.In h ∧ obsX K = valX
  of := fun _ _ e => ⟨_, He.frG_in, e⟩
  keeps := fun _ _ _ ⟨K, hK, c⟩ k => ⟨K, PySem.W.Frag.In.keeps hK k, c⟩
def ob (s : PySem.W.SharedT) : AlX := obsXG (HandSHeadRun.getT s)
theorem ob_eq (s : PySem.W.SharedT) : ob s = hk.obs s.abs := by
  have e : HandSHeadRun.getT s = s.abs.heap.get? := funext (HandSHeadRun.getT_eq s)
  show obsXG (HandSHeadRun.getT s) = obsXG s.abs.heap.get?
  rw [e]
set_option maxHeartbeats 0 in
theorem run (w : World) : HandSHeadRun.RunEq R (PySem.W.view R.prog [47]) hk ob 4000 names w := by
  intro os
  kernel_rfl
abbrev qv : Program := PySem.W.view R.prog [47]
abbrev dL := HandSHeadRun.topDef R.prog 47
theorem h_open : PySem.W.opening R.prog = PySem.W.plainProg R.prog.main.scope.names := by kernel_rfl
theorem h_fence (s : Shared) : fenceModules? R.prog s = some s := by kernel_rfl
theorem h_def : PySem.W.defOf qv R.name = some (dL, []) := by kernel_rfl
theorem h_the : R.prog.theDef R.name = some (dL.params, dL.body, dL.scope) := by kernel_rfl
theorem h_kw : PySem.W.kwWritten? dL.params.kwonlyargs dL.params.kw_defaults = some [] := by kernel_rfl
theorem h_ok : (PySem.W.chainsOk qv && PySem.W.opensWell R.prog && (PySem.W.frees R.toRowW && R.within.isEmpty)) = true := by decide +kernel
theorem h_bare : R.prog.bare := ⟨rfl, rfl, rfl, rfl, rfl, by decide +kernel⟩
theorem h_dfl : dL.params.defaults = [] := by kernel_rfl
theorem h_name : dL.name = ("law" : PySem.Str) := by kernel_rfl
theorem tx_of {K : PySem.W.Frag} {h : Heap} {mg : Str → Option Value} (X : K.In h) (G : h.Ns mainGlobals mg) (c : obsX K = valX) : TX K mg ∧ BoOk R.prog K := by
  have c1 : He.SaysD fa fn K := congrArg (fun z : AlX => z.1) c
  have c2 : (exB K && boB R.prog K) = true := congrArg (fun z : AlX => z.2.1) c
  have c3 : fnB K = fnBv := congrArg (fun z : AlX => z.2.2) c
  obtain ⟨c4, c5⟩ := He.ba c2
  exact ⟨.of X G c1 c4, c3, c5⟩
end K1
namespace K1
open PySem PySem.Spec L2
open PyProof.Rows hiding St
section
variable {K : PySem.W.Frag} {H H' H1 : Hp} {a b p : Addr} {xs ys : List V} {o u : HO}
theorem Same.alloc (h : H p = none) : Same H (upd H p o) := fun c z e => by rw [upd_ne (ne_of_none e h)]; exact e
theorem Same.mut (e : Same H H') (h : H p = none) : Same H (upd H' p o) := fun c z q => by rw [upd_ne (ne_of_none q h)]; exact e c z q
theorem Same.sqt (e : Same H H') (h : SqT K H a xs) : SqT K H' a xs := by
  rcases h with (h | ⟨o, h⟩) | h
  · exact .inl (.inl (e _ _ h))
  · exact .inl (.inr ⟨o, e _ _ h⟩)
  · exact .inr h
theorem Same.to (e : Same H H') (h : H a = some o) : H' a = some o := e _ _ h
theorem Same.seqTo (e : Same H H') (h : SqL K H a xs) : SqL K H' a xs := e.seq h
theorem Same.sqtTo (e : Same H H') (h : SqT K H a xs) : SqT K H' a xs := Same.sqt e h
theorem sqT_upd {d : Addr} {kvs : List (Key × V)} (h : SqT K H a xs) (hd : H d = some (.dK kvs)) : SqT K (upd H d o) a xs := by
  rcases h with (h | ⟨u, h⟩) | h
  · exact .inl (.inl (by rw [upd_ne (ne_of h hd (by intro z; cases z))]; exact h))
  · exact .inl (.inr ⟨u, by rw [upd_ne (ne_of h hd (by intro z; cases z))]; exact h⟩)
  · exact .inr h
theorem sqT_updL {d : Addr} {ys : List V} (h : SqT K H a xs) (hd : H d = some (.lst ys)) : SqT K (upd H d o) a xs := by
  rcases h with (h | ⟨u, h⟩) | h
  · exact .inl (.inl (by rw [upd_ne (ne_of h hd (by intro z; cases z))]; exact h))
  · exact .inl (.inr ⟨u, by rw [upd_ne (ne_of h hd (by intro z; cases z))]; exact h⟩)
  · exact .inr h
theorem sqL (h : H a = some (.lst xs)) : SqL K H a xs := .inl (.inl h)
theorem sqT (h : H a = some (.tup xs)) : SqT K H a xs := .inl (.inl h)
theorem sz {n : Nat} (h : n ≤ 100000) : n ≤ sizeLine := Nat.le_trans h (by decide)
theorem szlt {n : Nat} (h : n < 100000) : n < sizeLine := Nat.lt_of_lt_of_le h (by decide)
theorem dp_ints (ns : List Int) : DpAll K H (ns.map V.int) (ns.map PyData.int) := by
  induction ns with
  | nil => exact .nil
  | cons n ns ih => exact .cons (.int n) ih
theorem dp_strs (ns : List Str) : DpAll K H (ns.map V.str) (ns.map PyData.str) := by
  induction ns with
  | nil => exact .nil
  | cons n ns ih => exact .cons (.str n) ih
theorem lay_ints (ns : List Int) : PyData.canLayAll0 (ns.map PyData.int) = true ∧ PyData.depthAll (ns.map PyData.int) = 0 := by
  induction ns with
  | nil => exact ⟨rfl, rfl⟩
  | cons n ns ih => exact ⟨by simp [PyData.canLayAll0, PyData.canLay0, ih.1], by simp [PyData.depthAll, PyData.depth, ih.2]⟩
theorem lay_strs (ns : List Str) (h : ∀ x ∈ ns, PyData.strOk x = true) : PyData.canLayAll0 (ns.map PyData.str) = true ∧ PyData.depthAll (ns.map PyData.str) = 0 := by
  induction ns with
  | nil => exact ⟨rfl, rfl⟩
  | cons n ns ih =>
    have i := ih fun x hx => h x (List.mem_cons_of_mem _ hx)
    exact ⟨by simp [PyData.canLayAll0, PyData.canLay0, i.1, h n (List.mem_cons_self ..)], by simp [PyData.depthAll, PyData.depth, i.2]⟩
structure DL (K : PySem.W.Frag) (H : Hp) (vs : List V) (ds : List PyData) : Prop where
  dp : DpAll K H vs ds
  lay : PyData.canLayAll0 ds = true
  dep : PyData.depthAll ds ≤ 20
theorem DL.ints (ns : List Int) : DL K H (ns.map V.int) (ns.map PyData.int) := ⟨dp_ints ns, (lay_ints ns).1, by rw [(lay_ints ns).2]; decide⟩
theorem DL.strs (ns : List Str) (h : ∀ x ∈ ns, PyData.strOk x = true) : DL K H (ns.map V.str) (ns.map PyData.str) := ⟨dp_strs ns, (lay_strs ns h).1, by rw [(lay_strs ns h).2]; decide⟩
theorem DL.nil : DL K H [] [] := ⟨.nil, rfl, by decide⟩
theorem DL.cons {v : V} {vs : List V} {d : PyData} {ds : List PyData} (h : Dp K H v d) (l : d.canLay0 = true) (e : d.depth ≤ 20) (t : DL K H vs ds) : DL K H (v :: vs) (d :: ds) :=
  ⟨.cons h t.dp, by simp [PyData.canLayAll0, l, t.lay], by have := t.dep; simp [PyData.depthAll]; omega⟩
theorem dpAll_len : ∀ {vs : List V} {ds : List PyData}, DpAll K H vs ds → vs.length = ds.length
  | [], [], _ => rfl
  | _ :: vs, _ :: ds, .cons _ t => congrArg Nat.succ (dpAll_len t)
theorem DL.len {vs : List V} {ds : List PyData} (h : DL K H vs ds) : vs.length = ds.length := dpAll_len h.dp
theorem DL.shL {vs : List V} {ds : List PyData} (h : DL K H vs ds) : SeqAt.shaped (.list ds) = true := by
  have := h.dep
  simp [SeqAt.shaped, PyData.canLay0, h.lay, PyData.depth]; omega
theorem DL.shT {vs : List V} {ds : List PyData} (h : DL K H vs ds) : SeqAt.shaped (.tuple ds) = true := by
  have := h.dep
  simp [SeqAt.shaped, PyData.canLay0, h.lay, PyData.depth]; omega
theorem eqvAll_nil (ds : List PyData) : PyData.eqvAll ds [] = ds.isEmpty := by cases ds <;> simp [PyData.eqvAll]
theorem w_neNilL {ds : List PyData} {Q : VK} (ha : SqL K H a xs) (hb : SqL K H b []) (d : DL K H xs ds) (h : Q (.bl (!xs.isEmpty)) H) : rNeD K (.ref a) (.ref b) H Q := by
  refine ⟨.list ds, .list [], .lst ha d.dp, .lst hb .nil, d.shL, DL.nil.shL (K := K) (H := H), ?_⟩
  have e : PyData.eqv (.list ds) (.list []) = xs.isEmpty := by
    have := d.len
    rw [show PyData.eqv (.list ds) (.list []) = PyData.eqvAll ds [] by simp [PyData.eqv], eqvAll_nil]
    cases ds <;> cases xs <;> simp_all
  rw [e]; exact h
theorem w_eqNilL {ds : List PyData} {Q : VK} (ha : SqL K H a xs) (hb : SqL K H b []) (d : DL K H xs ds) (h : Q (.bl xs.isEmpty) H) : rEqD K (.ref a) (.ref b) H Q := by
  refine ⟨.list ds, .list [], .lst ha d.dp, .lst hb .nil, d.shL, DL.nil.shL (K := K) (H := H), ?_⟩
  have e : PyData.eqv (.list ds) (.list []) = xs.isEmpty := by
    have := d.len
    rw [show PyData.eqv (.list ds) (.list []) = PyData.eqvAll ds [] by simp [PyData.eqv], eqvAll_nil]
    cases ds <;> cases xs <;> simp_all
  rw [e]; exact h
theorem w_neNilT {ds : List PyData} {Q : VK} (ha : SqT K H a xs) (hb : SqT K H b []) (d : DL K H xs ds) (h : Q (.bl (!xs.isEmpty)) H) : rNeD K (.ref a) (.ref b) H Q := by
  refine ⟨.tuple ds, .tuple [], .tup ha d.dp, .tup hb .nil, d.shT, DL.nil.shT (K := K) (H := H), ?_⟩
  have e : PyData.eqv (.tuple ds) (.tuple []) = xs.isEmpty := by
    have := d.len
    rw [show PyData.eqv (.tuple ds) (.tuple []) = PyData.eqvAll ds [] by simp [PyData.eqv], eqvAll_nil]
    cases ds <;> cases xs <;> simp_all
  rw [e]; exact h
end
theorem fmod_bd {x m : Int} (h : 0 < m) : 0 ≤ x.fmod m ∧ x.fmod m < m := by
  rw [Int.fmod_eq_emod_of_nonneg _ (by omega)]
  exact ⟨Int.emod_nonneg _ (by omega), Int.emod_lt_of_pos _ h⟩
theorem fmod_nat (k n : Nat) : (k : Int).fmod (n : Int) = ((k % n : Nat) : Int) := by
  rw [Int.fmod_eq_emod_of_nonneg _ (by omega)]; rfl
theorem fdiv_nat (k n : Nat) : (k : Int).fdiv (n : Int) = ((k / n : Nat) : Int) := by
  rw [Int.fdiv_eq_ediv_of_nonneg _ (by omega)]; rfl
theorem fdiv_bd {x m : Int} (h : 0 < m) (hx : 0 ≤ x) : 0 ≤ x.fdiv m ∧ x.fdiv m ≤ x := by
  rw [Int.fdiv_eq_ediv_of_nonneg _ (by omega)]
  exact ⟨Int.ediv_nonneg hx (by omega), Int.ediv_le_self _ hx⟩
theorem cut_take (xs : List V) (n : Nat) : cutV xs none (some (n : Int)) = xs.take n := by
  unfold cutV
  rw [HT.sIx_none, HT.sIx_nat, List.drop_zero, Nat.sub_zero]
  rcases Nat.le_total n xs.length with h | h
  · rw [Nat.min_eq_left h]
  · rw [Nat.min_eq_right h, List.take_of_length_le (Nat.le_refl _), List.take_of_length_le h]
theorem ssx_nox {X : Cx} {sts : List Stmt} {D : Ends} {σ : St} {H : Hp} (h : SSX X.nox sts D σ H) : SSX X sts D σ H := h.elim fun _ q => ⟨_, q.1.nox, q.2⟩
def RBl (x : V) (H : Hp) (R : Bool → Hp → Prop) : Prop := ∃ k, x = .bl k ∧ R k H
def RInt (x : V) (H : Hp) (R : Option Int → Hp → Prop) : Prop := ∃ i, x = .int i ∧ R (some i) H
def RLst (xs : List V) (H : Hp) (Q : VK) : Prop := xs.length ≤ sizeLine ∧ ∀ p, H p = none → Q (.ref p) (upd H p (.lst xs))
def RTup (xs : List V) (H : Hp) (Q : VK) : Prop := xs.length ≤ sizeLine ∧ ∀ p, H p = none → Q (.ref p) (upd H p (.tup xs))
def RNew (o : HO) (H : Hp) (Q : VK) : Prop := ∀ p, H p = none → Q (.ref p) (upd H p o)
def RTwo (vs : List V) (R : V → V → Prop) : Prop := ∃ v w, vs = [v, w] ∧ R v w
def RThree (vs : List V) (R : V → V → V → Prop) : Prop := ∃ u v w, vs = [u, v, w] ∧ R u v w
def RIte (c : Bool) (A B : Prop) : Prop := if c = true then A else B
def rLen (K : PySem.W.Frag) : List V → Hp → VK → Prop := fun xs H Q => ∃ p ys, xs = [.ref p] ∧ (SqL K H p ys ∨ SqT K H p ys) ∧ Q (.int ys.length) H
def rInt1 : List V → Hp → VK → Prop := fun xs H Q => (∃ i, xs = [.int i] ∧ Q (.int i) H) ∨ ∃ k, xs = [.bl k] ∧ Q (.int (if k then 1 else 0)) H
def rListOf (K : PySem.W.Frag) : List V → Hp → VK → Prop := fun xs H Q => ∃ p ys, xs = [.ref p] ∧ (SqL K H p ys ∨ SqT K H p ys) ∧ ∀ l, H l = none → Q (.ref l) (upd H l (.lst ys))
def rTupleOf (K : PySem.W.Frag) : List V → Hp → VK → Prop := fun xs H Q => ∃ p ys, xs = [.ref p] ∧ ((SqL K H p ys ∧ ∀ l, H l = none → Q (.ref l) (upd H l (.tup ys))) ∨ (SqT K H p ys ∧ Q (.ref p) H))
def rListD : List V → Hp → VK → Prop := fun xs H Q => ∃ (a : Addr) (kvs : List (Key × V)), xs = [.ref a] ∧ Rd H a (.dK kvs) ∧ ∀ p, H p = none → Q (.ref p) (upd H p (.lst (kvs.map fun kv => kV kv.1)))
def rDictP (K : PySem.W.Frag) : List V → Hp → VK → Prop := fun xs H Q => ∃ (a : Addr) (ps : List Addr) (kvs : List (Key × V)), xs = [.ref a] ∧ SqL K H a (ps.map V.ref) ∧ Paired (fun p kv => SqT K H p [kV kv.1, kv.2]) ps kvs ∧ ∀ p, H p = none → Q (.ref p) (upd H p (.dK (mergeK [] kvs)))
def rDictD : List V → Hp → VK → Prop := fun xs H Q => ∃ (a : Addr) (kvs : List (Key × V)), xs = [.ref a] ∧ Rd H a (.dK kvs) ∧ ∀ p, H p = none → Q (.ref p) (upd H p (.dK kvs))
def rLenD : List V → Hp → VK → Prop := fun xs H Q => ∃ a kvs, xs = [V.ref a] ∧ H a = some (.dK kvs) ∧ Q (.int kvs.length) H
def rMax2 : List V → Hp → VK → Prop := fun xs H Q => ∃ i j, xs = [.int i, .int j] ∧ Q (.int (if j > i then j else i)) H
def rStrS : List V → Hp → VK → Prop := fun xs H Q => ∃ a, xs = [.str a] ∧ Q (.str a) H
def rSortD : List V → Hp → VK → Prop := fun xs H Q => ∃ (a : Addr) (kvs : List (Key × V)) (ks : List Str), xs = [.ref a] ∧ Rd H a (.dK kvs) ∧ kvs.map (·.1) = ks.map Sum.inr ∧ ks.length < 64 ∧ ∀ ys p, ys.Perm ks → sortedS ys = true → H p = none → Q (.ref p) (upd H p (.lst (ys.map V.str)))
def rLenStr : List V → Hp → VK → Prop := fun xs H Q => ∃ z, xs = [.str z] ∧ z.length ≤ sizeLine ∧ Q (.int z.length) H
section
variable {X : Cx}
theorem k_len : CallR X (.builtin "len") (rLen X.K) := call_len_seq
theorem k_int : CallR X (.type "int") rInt1 := call_int1
theorem k_list : CallR X (.type "list") (rListOf X.K) := call_list_of
theorem k_tuple : CallR X (.type "tuple") (rTupleOf X.K) := call_tuple_of
theorem k_listD (h : X.calm = true) : CallR X (.type "list") rListD := call_listD h
theorem k_dictP (h : X.calm = true) : CallR X (.type "dict") (rDictP X.K) := call_dictP h
theorem k_dictD : CallR X (.type "dict") rDictD := call_dictD
theorem k_lenD : CallR X (.builtin "len") rLenD := call_lenD
theorem k_max2 (h : X.calm = true) : CallR X (.builtin "max") rMax2 := call_max2 h
theorem k_str : CallR X (.type "str") rStrS := SkE.call_str_str
theorem k_sortD (h : X.calm = true) : CallR X (.builtin "sorted") rSortD := call_sortedD h
theorem k_lenS : CallR X (.builtin "len") rLenStr := call_len_str
end
section
variable {K : PySem.W.Frag} {H : Hp} {σ : St} {Q : VK} {D : Ends} {te ta tb tv td ty tx to tc : TE} {t : TA} {tt t2 : TT} {g : TG} {i : Nat} {v x y u : V} {r r' : R2} {ts us : TS} {rc : List V → Hp → VK → Prop} {RB : Bool → Hp → Prop}
theorem w_asg (h : te σ H fun x H1 => g x σ H1 D.nx) : tAsg te g D σ H := h
theorem w_gname {R : St → Hp → Prop} (h : R (σ.set i (some v)) H) : gName i v σ H R := h
theorem w_var (e : σ[i]? = some (some v)) (h : Q v H) : tVar i σ H Q := ⟨v, e, h⟩
theorem w_c (h : Q v H) : tC v σ H Q := h
theorem w_if (h : tt σ H fun c H1 => RIte c (ta σ H1 Q) (tb σ H1 Q)) : tIf tt ta tb σ H Q := h
theorem w_ifs (h : tt σ H fun c H1 => RIte c (ts D σ H1) (us D σ H1)) : tIfS tt ts us D σ H := h
theorem w_test (h : te σ H fun x H' => RBl x H' RB) : tTest te σ H RB := h
theorem w_tB (h : te σ H fun x H' => RBl x H' RB) : tB te σ H RB := h
theorem w_bl {c : Bool} (h : RB c H) : RBl (V.bl c) H RB := ⟨c, rfl, h⟩
theorem w_op (h : ta σ H fun x H1 => tb σ H1 fun y H2 => r x y H2 Q) : tOp r ta tb σ H Q := h
theorem w_nil {R : List V → Hp → Prop} (h : R [] H) : tNil σ H R := h
theorem w_cons {R : List V → Hp → Prop} (h : te σ H fun x H1 => t σ H1 fun xs H2 => R (x :: xs) H2) : tCons te t σ H R := h
theorem w_cb (h : t σ H fun vs H1 => rc vs H1 Q) : tCB rc t σ H Q := h
theorem w_I0 {f : Int → Int → V} {m n : Int} (h : Q (f m n) H) : rI0 f (.int m) (.int n) H Q := ⟨m, n, rfl, rfl, h⟩
theorem w_I {C : Int → Int → Prop} {f : Int → Int → V} {m n : Int} (c : C m n) (h : Q (f m n) H) : rI C f (.int m) (.int n) H Q := ⟨m, n, rfl, rfl, c, h⟩
theorem w_lst (h : t σ H fun xs H1 => RLst xs H1 Q) : tLst t σ H Q := h
theorem w_tup (h : t σ H fun xs H1 => RTup xs H1 Q) : tTup t σ H Q := h
theorem w_newL {xs : List V} (hz : xs.length ≤ 100000) (h : ∀ p H', H p = none → Same H H' → H' p = some (.lst xs) → Q (.ref p) H') : RLst xs H Q := ⟨sz hz, fun p hp => h p _ hp (Same.alloc hp) upd_same⟩
theorem w_newT {xs : List V} (hz : xs.length ≤ 100000) (h : ∀ p H', H p = none → Same H H' → H' p = some (.tup xs) → Q (.ref p) H') : RTup xs H Q := ⟨sz hz, fun p hp => h p _ hp (Same.alloc hp) upd_same⟩
theorem w_new {o : HO} (h : ∀ p H', H p = none → Same H H' → H' p = some o → Q (.ref p) H') : RNew o H Q := fun p hp => h p _ hp (Same.alloc hp) upd_same
theorem w_sl {rs : V → Option Int → Option Int → Hp → VK → Prop} {tl th : TO} (h : te σ H fun x H1 => tl σ H1 fun l H2 => th σ H2 fun u H3 => rs x l u H3 Q) : tSl rs te tl th σ H Q := h
theorem w_noPart {R : Option Int → Hp → Prop} (h : R none H) : tNoPart σ H R := h
theorem w_part {R : Option Int → Hp → Prop} (h : te σ H fun x H1 => RInt x H1 R) : tPart te σ H R := h
theorem w_int {R : Option Int → Hp → Prop} {n : Int} (h : R (some n) H) : RInt (V.int n) H R := ⟨n, rfl, h⟩
theorem w_slL {a : Addr} {xs : List V} {lo hi : Option Int} (hs : SqL K H a xs) (h : ∀ p H', H p = none → Same H H' → H' p = some (.lst (cutV xs lo hi)) → Q (.ref p) H') : rSlL K (.ref a) lo hi H Q :=
  ⟨a, xs, rfl, hs, fun p hp => h p _ hp (Same.alloc hp) upd_same⟩
theorem w_par {j : Nat} (h : t σ H fun vs H1 => RTwo vs fun v w => D.nx ((σ.set i (some v)).set j (some w)) H1) : tPar i j t D σ H := h
theorem w_two {w : V} {R : V → V → Prop} (h : R v w) : RTwo [v, w] R := ⟨v, w, rfl, h⟩
theorem w_par3 {j l : Nat} (h : t σ H fun vs H1 => RThree vs fun u v w => D.nx (((σ.set i (some u)).set j (some v)).set l (some w)) H1) : tPar3 i j l t D σ H := h
theorem w_three {w : V} {R : V → V → V → Prop} (h : R u v w) : RThree [u, v, w] R := ⟨u, v, w, rfl, h⟩
theorem w_ret (h : te σ H D.rt) : tRet te D σ H := h
theorem w_drop (h : te σ H fun _ H1 => D.nx σ H1) : tDrop te D σ H := h
theorem w_ixL {a : Addr} {xs : List V} {n : Int} (hs : SqL K H a xs) (e : atI xs n = some v) (h : Q v H) : rIxL K (.ref a) (.int n) H Q := ⟨a, xs, n, v, rfl, rfl, hs, e, h⟩
theorem w_ixT {a : Addr} {xs : List V} {n : Int} (hs : SqT K H a xs) (e : atI xs n = some v) (h : Q v H) : rIxT K (.ref a) (.int n) H Q := ⟨a, xs, n, v, rfl, rfl, hs, e, h⟩
theorem w_chain (h : ta σ H fun x H1 => tb σ H1 fun y H2 => r x y H2 fun z H3 => RBl z H3 fun k H3 => RIte k (tc σ H3 fun w' H4 => r' y w' H4 Q) (Q (.bl false) H3)) : tChain r r' ta tb tc σ H Q := h
theorem w_and (h : tt σ H fun c H1 => RIte c (t2 σ H1 RB) (RB false H1)) : tAnd tt t2 σ H RB := h
theorem w_or (h : tt σ H fun c H1 => RIte c (RB true H1) (t2 σ H1 RB)) : tOr tt t2 σ H RB := h
theorem w_not (h : tt σ H fun c H1 => RB (!c) H1) : tNot tt σ H RB := h
theorem w_notV (h : ta σ H fun x H1 => RBl x H1 fun c H1 => Q (.bl (!c)) H1) : tNotV ta σ H Q := h
theorem w_andV (h : ta σ H fun x H1 => RBl x H1 fun c H1 => RIte c (tb σ H1 Q) (Q (.bl false) H1)) : tAndV ta tb σ H Q := h
theorem w_orV (h : ta σ H fun x H1 => RBl x H1 fun c H1 => RIte c (Q (.bl true) H1) (tb σ H1 Q)) : tOrV ta tb σ H Q := h
theorem w_eq (hs : scal x y = true) (h : Q (.bl (decide (x = y))) H) : rEq x y H Q := ⟨hs, h⟩
theorem w_ne (hs : scal x y = true) (h : Q (.bl (!decide (x = y))) H) : rNe x y H Q := ⟨hs, h⟩
theorem w_int1 {n : Int} (h : Q (.int n) H) : rInt1 [V.int n] H Q := .inl ⟨n, rfl, h⟩
theorem w_lenL {a : Addr} {xs : List V} (hs : SqL K H a xs) (h : Q (.int xs.length) H) : rLen K [V.ref a] H Q := ⟨a, xs, rfl, .inl hs, h⟩
theorem w_lenT {a : Addr} {xs : List V} (hs : SqT K H a xs) (h : Q (.int xs.length) H) : rLen K [V.ref a] H Q := ⟨a, xs, rfl, .inr hs, h⟩
theorem w_true {A B : Prop} (h : A) : RIte true A B := iteT h
theorem w_false {A B : Prop} (h : B) : RIte false A B := iteF h
theorem w_ntrue {A B : Prop} (h : B) : RIte (!true) A B := iteF h
theorem w_nfalse {A B : Prop} (h : A) : RIte (!false) A B := iteT h
theorem w_dtrue {c A B : Prop} [Decidable c] (hc : c) (h : A) : RIte (decide c) A B := by rw [decide_eq_true hc]; exact iteT h
theorem w_dfalse {c A B : Prop} [Decidable c] (hc : ¬ c) (h : B) : RIte (decide c) A B := by rw [decide_eq_false hc]; exact iteF h
theorem w_dcases {c A B : Prop} [Decidable c] (h1 : c → A) (h2 : ¬ c → B) : RIte (decide c) A B := by
  by_cases h : c
  · exact w_dtrue h (h1 h)
  · exact w_dfalse h (h2 h)
theorem w_ndtrue {c A B : Prop} [Decidable c] (hc : c) (h : B) : RIte (!decide c) A B := by rw [decide_eq_true hc]; exact iteF h
theorem w_ndfalse {c A B : Prop} [Decidable c] (hc : ¬ c) (h : A) : RIte (!decide c) A B := by rw [decide_eq_false hc]; exact iteT h
theorem w_ndcases {c A B : Prop} [Decidable c] (h1 : c → B) (h2 : ¬ c → A) : RIte (!decide c) A B := by
  by_cases h : c
  · exact w_ndtrue h (h1 h)
  · exact w_ndfalse h (h2 h)
theorem w_both {c : Bool} {A B : Prop} (h1 : c = true → A) (h2 : c = false → B) : RIte c A B := by
  cases c with
  | true => exact h1 rfl
  | false => exact h2 rfl
def RFor (g : TG) (ts : TS) (D : Ends) (σ : St) (J : It) (H1 : Hp) : Prop := ∃ W : Nat → Nat → St → Hp → Prop, (∃ m, W 0 m σ H1) ∧ ∀ i m σ H, W i m σ H →
  (J.stop i H ∧ D.nx σ H) ∨ (J.go i H ∧ ∃ N : St → Hp → Prop, (∀ σ' H', N σ' H' → ∃ m', m' < m ∧ W (i + 1) m' σ' H') ∧ ∀ x H', J.yld i H x H' → g x σ H' fun σ2 H2 => ts { D with nx := N, ct := N, bk := D.nx } σ2 H2)
theorem w_for {wi : TI} (h : wi σ H fun J H1 => RFor g ts D σ J H1) : tFor wi g ts D σ H := h
def RRng (vs : List V) (R : It → Prop) : Prop := ∃ j : Int, vs = [.int j] ∧ -(2 ^ 62) ≤ j ∧ j < 2 ^ 62 ∧ R (Itr 0 j.toNat)
theorem w_rng1 {R : It → Hp → Prop} (h : t σ H fun vs H1 => RRng vs fun J => R J H1) : iRng1 t σ H R := h
theorem w_rng1v {n : Int} {R : It → Prop} (hn : -1000000 ≤ n ∧ n ≤ 1000000) (h : R (Itr 0 n.toNat)) : RRng [V.int n] R := ⟨n, rfl, by omega, by omega, h⟩
def RRng2 (vs : List V) (R : It → Prop) : Prop := ∃ i j : Int, vs = [.int i, .int j] ∧ (-(2 ^ 62) ≤ i ∧ i < 2 ^ 62 ∧ -(2 ^ 62) ≤ j ∧ j < 2 ^ 62) ∧ R (Itr i (j - i).toNat)
theorem w_rng2 {R : It → Hp → Prop} (h : t σ H fun vs H1 => RRng2 vs fun J => R J H1) : iRng2 t σ H R := h
theorem w_rng2v {m n : Int} {R : It → Prop} (hn : -1000000 ≤ m ∧ m ≤ 1000000 ∧ -1000000 ≤ n ∧ n ≤ 1000000) (h : R (Itr m (n - m).toNat)) : RRng2 [V.int m, V.int n] R := ⟨m, n, rfl, by omega, h⟩
def RItL (K : PySem.W.Frag) (x : V) (H1 : Hp) (R : It → Hp → Prop) : Prop := ∃ a, x = .ref a ∧ (∃ xs, SqL K H1 a xs) ∧ R (Itl K a) H1
def RItT (K : PySem.W.Frag) (x : V) (H1 : Hp) (R : It → Hp → Prop) : Prop := ∃ a, x = .ref a ∧ (∃ xs, SqT K H1 a xs) ∧ R (Itt K a) H1
theorem w_iList {R : It → Hp → Prop} (h : te σ H fun x H1 => RItL K x H1 R) : iList K te σ H R := h
theorem w_iTup {R : It → Hp → Prop} (h : te σ H fun x H1 => RItT K x H1 R) : iTup K te σ H R := h
theorem w_itL {a : Addr} {xs : List V} {R : It → Hp → Prop} (hs : SqL K H a xs) (h : R (Itl K a) H) : RItL K (.ref a) H R := ⟨a, rfl, ⟨xs, hs⟩, h⟩
theorem w_itT {a : Addr} {xs : List V} {R : It → Hp → Prop} (hs : SqT K H a xs) (h : R (Itt K a) H) : RItT K (.ref a) H R := ⟨a, rfl, ⟨xs, hs⟩, h⟩
end
theorem bt_int : bootBuiltins "int" = some (.type "int") := by decide +kernel
theorem bt_bool : bootBuiltins "bool" = some (.type "bool") := by decide +kernel
theorem bt_str : bootBuiltins "str" = some (.type "str") := by decide +kernel
theorem bt_dict : bootBuiltins "dict" = some (.type "dict") := by decide +kernel
theorem bt_list : bootBuiltins "list" = some (.type "list") := by decide +kernel
theorem bt_tuple : bootBuiltins "tuple" = some (.type "tuple") := by decide +kernel
theorem bb_len : bootBuiltins "len" = some (.builtin "len") := by decide +kernel
theorem bb_isinstance : bootBuiltins "isinstance" = some (.builtin "isinstance") := by decide +kernel
theorem bb_all : bootBuiltins "all" = some (.builtin "all") := by decide +kernel
theorem bb_any : bootBuiltins "any" = some (.builtin "any") := by decide +kernel
theorem bb_sorted : bootBuiltins "sorted" = some (.builtin "sorted") := by decide +kernel
theorem bb_min : bootBuiltins "min" = some (.builtin "min") := by decide +kernel
theorem bb_max : bootBuiltins "max" = some (.builtin "max") := by decide +kernel
end K1
namespace K1
structure NetD where
  names : List PySem.Str
  fr : PySem.Str → List (List PySem.Str)
  tn : PySem.Str → List (List PySem.Str)
  jk : PySem.Str
namespace NetD
variable (N : NetD)
abbrev S := PySem.Str
def rows (k : S) : List (List S) := N.fr k ++ N.tn k
def len (k : S) : Nat := (N.rows k).length
def nxt (k : S) (p : Nat) : Nat := if p + 1 < N.len k then p + 1 else (N.fr k).length
def plc (k : S) (p : Nat) : Nat → Nat
  | 0 => p
  | t + 1 => N.nxt k (plc k p t)
def dropAt (k : S) (p : Nat) : List S := (N.rows k).getD p []
def fall (k : S) (p : Nat) : Nat → S → Nat
  | 0, _ => 0
  | t + 1, x => fall k p t x + (N.dropAt k (N.plc k p t)).count x
theorem plc_add (k : S) (p s t : Nat) : N.plc k p (s + t) = N.plc k (N.plc k p s) t := by
  induction t with
  | zero => rfl
  | succ t ih => show N.nxt k (N.plc k p (s + t)) = _; rw [ih]; rfl
theorem fall_add (k : S) (p s t : Nat) (x : S) : N.fall k p (s + t) x = N.fall k p s x + N.fall k (N.plc k p s) t x := by
  induction t with
  | zero => rfl
  | succ t ih => show N.fall k p (s + t) x + (N.dropAt k (N.plc k p (s + t))).count x = _ + (N.fall k (N.plc k p s) t x + _); rw [ih, plc_add]; omega
theorem fall_mono (k : S) (p : Nat) {s t : Nat} (h : s ≤ t) (x : S) : N.fall k p s x ≤ N.fall k p t x := by
  obtain ⟨d, rfl⟩ := Nat.exists_eq_add_of_le h
  rw [fall_add]; omega
def sm (f : S → Nat) : List S → Nat
  | [] => 0
  | k :: r => f k + sm f r
theorem sm_mono {f g : S → Nat} : ∀ {l : List S}, (∀ k ∈ l, f k ≤ g k) → sm f l ≤ sm g l
  | [], _ => Nat.le_refl _
  | k :: r, h => Nat.add_le_add (h k (List.mem_cons_self ..)) (sm_mono fun x hx => h x (List.mem_cons_of_mem _ hx))
theorem sm_congr {f g : S → Nat} : ∀ {l : List S}, (∀ k ∈ l, f k = g k) → sm f l = sm g l
  | [], _ => rfl
  | k :: r, h => by rw [sm, sm, h k (List.mem_cons_self ..), sm_congr fun x hx => h x (List.mem_cons_of_mem _ hx)]
theorem sm_add {f g h : S → Nat} : ∀ {l : List S}, (∀ k ∈ l, h k = f k + g k) → sm h l = sm f l + sm g l
  | [], _ => rfl
  | k :: r, e => by
    have := sm_add (f := f) (g := g) (h := h) (l := r) fun x hx => e x (List.mem_cons_of_mem _ hx)
    have := e k (List.mem_cons_self ..)
    simp only [sm]; omega
def up {α : Type} (f : S → α) (k : S) (v : α) : S → α := fun x => if x = k then v else f x
theorem up_same {α : Type} {f : S → α} {k : S} {v : α} : up f k v k = v := if_pos rfl
theorem up_ne {α : Type} {f : S → α} {k x : S} {v : α} (h : x ≠ k) : up f k v x = f x := if_neg h
theorem sm_up {f g : S → Nat} {k : S} {d : Nat} : ∀ {l : List S}, l.Nodup → k ∈ l → (∀ x ∈ l, x ≠ k → g x = f x) → g k = f k + d → sm g l = sm f l + d
  | y :: r, hn, hk, h1, h2 => by
    have hn' := List.nodup_cons.mp hn
    by_cases e : y = k
    · subst e
      have := sm_congr (f := g) (g := f) (l := r) fun x hx => h1 x (List.mem_cons_of_mem _ hx) fun z => hn'.1 (z ▸ hx)
      simp only [sm]; omega
    · have hk' : k ∈ r := by
        rcases List.mem_cons.mp hk with z | z
        · exact absurd z.symm e
        · exact z
      have := sm_up (f := f) (g := g) (d := d) hn'.2 hk' (fun x hx => h1 x (List.mem_cons_of_mem _ hx)) h2
      have := h1 y (List.mem_cons_self ..) e
      simp only [sm]; omega
def got (p0 : S → Nat) (u : S → Nat) (x : S) : Nat := sm (fun k => N.fall k (p0 k) (u k) x) N.names
def wt (w0 : S → Nat) (p0 : S → Nat) (u : S → Nat) (x : S) : Int := (w0 x : Int) + (N.got p0 u x : Int) - (u x : Int)
inductive Reach (w0 p0 : S → Nat) : (S → Nat) → Prop
  | zero : Reach w0 p0 fun _ => 0
  | step {u : S → Nat} {k : S} {m : Nat} : Reach w0 p0 u → k ∈ N.names → (m : Int) ≤ N.wt w0 p0 u k → Reach w0 p0 (up u k (u k + m))
theorem got_mono {p0 u v : S → Nat} (h : ∀ k ∈ N.names, u k ≤ v k) (x : S) : N.got p0 u x ≤ N.got p0 v x := sm_mono fun k hk => N.fall_mono _ _ (h k hk) x
theorem reach_le {w0 w1 p0 us u : S → Nat} (hs : ∀ k ∈ N.names, N.wt w1 p0 us k ≤ 0) (hw : ∀ k ∈ N.names, w0 k ≤ w1 k) (r : N.Reach w0 p0 u) : ∀ k ∈ N.names, u k ≤ us k := by
  induction r with
  | zero => intro k _; exact Nat.zero_le _
  | @step u k m _ hk hm ih =>
    intro x hx
    by_cases e : x = k
    · subst e
      rw [up_same]
      have h1 := hs x hx
      have h2 := N.got_mono (p0 := p0) ih x
      have h3 := hw x hx
      unfold wt at h1 hm
      omega
    · rw [up_ne e]; exact ih x hx
theorem reach_eq {w0 p0 us u : S → Nat} (hs : ∀ k ∈ N.names, N.wt w0 p0 us k ≤ 0) (hu : ∀ k ∈ N.names, N.wt w0 p0 u k ≤ 0) (rs : N.Reach w0 p0 us) (ru : N.Reach w0 p0 u) : ∀ k ∈ N.names, u k = us k := fun k hk =>
  Nat.le_antisymm (N.reach_le hs (fun _ _ => Nat.le_refl _) ru k hk) (N.reach_le hu (fun _ _ => Nat.le_refl _) rs k hk)
theorem got_congr {p0 u v : S → Nat} (h : ∀ k ∈ N.names, u k = v k) (x : S) : N.got p0 u x = N.got p0 v x := sm_congr fun k hk => by rw [h k hk]
theorem got_step {p0 u : S → Nat} {k : S} {m : Nat} (hn : N.names.Nodup) (hk : k ∈ N.names) (x : S) : N.got p0 (up u k (u k + m)) x = N.got p0 u x + N.fall k (N.plc k (p0 k) (u k)) m x := by
  refine sm_up hn hk (fun y _ e => by rw [up_ne e]) ?_
  rw [up_same, fall_add]
theorem wt_step {w0 p0 u : S → Nat} {k : S} {m : Nat} (hn : N.names.Nodup) (hk : k ∈ N.names) (x : S) :
    N.wt w0 p0 (up u k (u k + m)) x = N.wt w0 p0 u x + N.fall k (N.plc k (p0 k) (u k)) m x - (if x = k then (m : Int) else 0) := by
  unfold wt
  rw [N.got_step hn hk]
  by_cases e : x = k
  · subst e; rw [up_same, if_pos rfl]; omega
  · rw [up_ne e, if_neg e]; omega
theorem reach_pos {w0 p0 u : S → Nat} (hn : N.names.Nodup) (r : N.Reach w0 p0 u) : ∀ x ∈ N.names, 0 ≤ N.wt w0 p0 u x := by
  induction r with
  | zero => intro x _; show (0 : Int) ≤ (w0 x : Int) + (N.got p0 (fun _ => 0) x : Int) - ((0 : Nat) : Int); omega
  | @step u k m _ hk hm ih =>
    intro x hx
    rw [N.wt_step hn hk]
    have := ih x hx
    by_cases e : x = k
    · subst e; rw [if_pos rfl]; omega
    · rw [if_neg e]; omega
theorem reach_more {w0 w1 p0 u : S → Nat} (hw : ∀ k ∈ N.names, w0 k ≤ w1 k) (r : N.Reach w0 p0 u) : N.Reach w1 p0 u := by
  induction r with
  | zero => exact .zero
  | @step u k m _ hk hm ih =>
    refine .step ih hk ?_
    have := hw k hk
    unfold wt at *
    omega
theorem reach_then {w0 w1 w2 p0 u v : S → Nat} (hn : N.names.Nodup) (hw : ∀ k ∈ N.names, w2 k = w0 k + w1 k) (ru : N.Reach w0 p0 u) (hz : ∀ k ∈ N.names, N.wt w0 p0 u k = 0)
    (rv : N.Reach w1 (fun k => N.plc k (p0 k) (u k)) v) : N.Reach w2 p0 (fun k => u k + v k) ∧ ∀ x ∈ N.names, N.wt w2 p0 (fun k => u k + v k) x = N.wt w1 (fun k => N.plc k (p0 k) (u k)) v x := by
  have key : ∀ v : S → Nat, ∀ x, N.got p0 (fun k => u k + v k) x = N.got p0 u x + N.got (fun k => N.plc k (p0 k) (u k)) v x := fun v x => sm_add fun k _ => N.fall_add k _ _ _ x
  have kw : ∀ v : S → Nat, ∀ x ∈ N.names, N.wt w2 p0 (fun k => u k + v k) x = N.wt w1 (fun k => N.plc k (p0 k) (u k)) v x := by
    intro v x hx
    have h1 := hz x hx
    have h2 := hw x hx
    have h3 := key v x
    show (w2 x : Int) + (N.got p0 (fun k => u k + v k) x : Int) - ((u x + v x : Nat) : Int) = _
    unfold wt at *
    omega
  refine ⟨?_, kw v⟩
  induction rv with
  | zero => exact N.reach_more (fun k hk => by rw [hw k hk]; omega) ru
  | @step v k m _ hk hm ih =>
    have e : (fun x => u x + up v k (v k + m) x) = up (fun x => u x + v x) k ((u k + v k) + m) := by
      funext x
      by_cases e : x = k
      · subst e; rw [up_same, up_same]; omega
      · rw [up_ne e, up_ne e]
    rw [e]
    exact .step (u := fun x => u x + v x) ih hk (by rw [kw v k hk]; exact hm)
theorem plc_lt {k : S} {p : Nat} (ht : 0 < (N.tn k).length) (hp : p < N.len k) : ∀ m, N.plc k p m < N.len k
  | 0 => hp
  | m + 1 => by
    show N.nxt k (N.plc k p m) < N.len k
    have : (N.fr k).length < N.len k := by unfold len rows; rw [List.length_append]; omega
    unfold nxt
    split <;> omega
theorem succ_mod (a t : Nat) (h : 0 < t) : (a + 1) % t = if a % t + 1 < t then a % t + 1 else 0 := by
  have e := Nat.div_add_mod a t
  have l := Nat.mod_lt a h
  split
  · rw [show a + 1 = t * (a / t) + (a % t + 1) by omega, Nat.mul_add_mod, Nat.mod_eq_of_lt (by omega)]
  · rw [show a + 1 = t * (a / t + 1) by rw [Nat.mul_add, Nat.mul_one]; omega, Nat.mul_mod_right]
theorem succ_div (a t : Nat) (h : 0 < t) : (a + 1) / t = if a % t + 1 < t then a / t else a / t + 1 := by
  have e := Nat.div_add_mod a t
  have l := Nat.mod_lt a h
  split
  · rw [show a + 1 = (a % t + 1) + t * (a / t) by omega, Nat.add_mul_div_left _ _ h, Nat.div_eq_of_lt (by omega)]; omega
  · rw [show a + 1 = t * (a / t + 1) by rw [Nat.mul_add, Nat.mul_one]; omega, Nat.mul_div_cancel_left _ h]
theorem plc_eq {k : S} {p : Nat} (ht : 0 < (N.tn k).length) (hp : p < N.len k) (m : Nat) :
    N.plc k p m = if p + m < N.len k then p + m else (N.fr k).length + (p + m - (N.fr k).length) % (N.tn k).length := by
  have hl : N.len k = (N.fr k).length + (N.tn k).length := by unfold len rows; rw [List.length_append]
  induction m with
  | zero => show p = _; rw [if_pos (by omega)]; rfl
  | succ m ih =>
    show N.nxt k (N.plc k p m) = _
    rw [ih]
    unfold nxt
    by_cases h1 : p + m < N.len k
    · rw [if_pos h1]
      by_cases h2 : p + m + 1 < N.len k
      · rw [if_pos h2, if_pos (by omega)]; rfl
      · rw [if_neg h2, if_neg (by omega), show p + (m + 1) - (N.fr k).length = (N.tn k).length by omega, Nat.mod_self]; rfl
    · rw [if_neg h1, if_neg (show ¬ p + (m + 1) < N.len k by omega), show p + (m + 1) - (N.fr k).length = (p + m - (N.fr k).length) + 1 by omega, succ_mod _ _ ht]
      have := Nat.mod_lt (p + m - (N.fr k).length) ht
      by_cases h2 : (p + m - (N.fr k).length) % (N.tn k).length + 1 < (N.tn k).length
      · rw [if_pos (by omega), if_pos h2]; omega
      · rw [if_neg (by omega), if_neg h2]; rfl
def cr (x : S) : List (List S) → Nat
  | [] => 0
  | d :: l => d.count x + cr x l
theorem cr_append (x : S) (l m : List (List S)) : cr x (l ++ m) = cr x l + cr x m := by
  induction l with
  | nil => simp [cr]
  | cons d l ih => simp only [List.cons_append, cr, ih]; omega
def ts (x : S) (w r : Nat) : Nat → List (List S) → Nat
  | _, [] => 0
  | i, d :: l => d.count x * (w + if i < r then 1 else 0) + ts x w r (i + 1) l
theorem ts_far (x : S) (w r : Nat) : ∀ (i : Nat) (l : List (List S)), r ≤ i → ts x w (r + 1) i l = ts x w r i l + if r = i then (l.getD 0 []).count x else 0
  | i, [], _ => by simp [ts]
  | i, d :: l, h => by
    have ih := ts_far x w r (i + 1) l (by omega)
    simp only [ts, ih, if_neg (show ¬ i < r by omega), if_neg (show ¬ r = i + 1 by omega)]
    by_cases e : r = i
    · rw [if_pos (by omega), if_pos e, Nat.mul_add, Nat.mul_add]; simp; omega
    · rw [if_neg (by omega), if_neg e]; omega
theorem ts_rest (x : S) (w r : Nat) : ∀ (i : Nat) (l : List (List S)), i ≤ r → ts x w (r + 1) i l = ts x w r i l + (l.getD (r - i) []).count x
  | i, [], _ => by simp [ts]
  | i, d :: l, h => by
    by_cases e : r = i
    · subst e
      rw [ts_far x w r r (d :: l) (Nat.le_refl _), if_pos rfl, Nat.sub_self]
    · have ih := ts_rest x w r (i + 1) l (by omega)
      have e2 : (d :: l).getD (r - i) [] = l.getD (r - (i + 1)) [] := by
        rw [show r - i = (r - (i + 1)) + 1 by omega]; simp
      simp only [ts, ih, e2, if_pos (show i < r + 1 by omega), if_pos (show i < r by omega)]; omega
theorem ts_whole (x : S) (w : Nat) : ∀ (i : Nat) (l : List (List S)), ts x (w + 1) 0 i l = ts x w (i + l.length) i l
  | i, [] => rfl
  | i, d :: l => by
    have ih := ts_whole x w (i + 1) l
    have : ts x w (i + 1 + l.length) (i + 1) l = ts x w (i + (d :: l).length) (i + 1) l := by rw [List.length_cons]; congr 1; omega
    simp only [ts, ih, this, List.length_cons]
    rw [if_neg (by omega), if_pos (by omega)]
theorem ts_zero (x : S) : ∀ (i : Nat) (l : List (List S)), ts x 0 0 i l = 0
  | i, [] => rfl
  | i, d :: l => by simp [ts, ts_zero x (i + 1) l]
theorem fall_turn {k : S} (ht : 0 < (N.tn k).length) (x : S) (n : Nat) : N.fall k (N.fr k).length n x = ts x (n / (N.tn k).length) (n % (N.tn k).length) 0 (N.tn k) := by
  have hl : N.len k = (N.fr k).length + (N.tn k).length := by unfold len rows; rw [List.length_append]
  induction n with
  | zero => rw [Nat.zero_div, Nat.zero_mod, ts_zero]; rfl
  | succ n ih =>
    have e : N.plc k (N.fr k).length n = (N.fr k).length + n % (N.tn k).length := by
      rw [N.plc_eq ht (by omega)]
      by_cases h : (N.fr k).length + n < N.len k
      · rw [if_pos h, Nat.mod_eq_of_lt (by omega)]
      · rw [if_neg h]; congr 2; omega
    have ed : N.dropAt k ((N.fr k).length + n % (N.tn k).length) = (N.tn k).getD (n % (N.tn k).length) [] := by
      unfold dropAt rows
      rw [List.getD_eq_getElem?_getD, List.getD_eq_getElem?_getD, List.getElem?_append_right (by omega)]
      congr 2; omega
    show N.fall k (N.fr k).length n x + (N.dropAt k (N.plc k (N.fr k).length n)).count x = _
    rw [e, ed, ih, succ_mod _ _ ht, succ_div _ _ ht]
    have l := Nat.mod_lt n ht
    by_cases h : n % (N.tn k).length + 1 < (N.tn k).length
    · rw [if_pos h, if_pos h, ts_rest x _ _ 0 _ (Nat.zero_le _), Nat.sub_zero]
    · rw [if_neg h, if_neg h, ts_whole, Nat.zero_add]
      have := ts_rest x (n / (N.tn k).length) (n % (N.tn k).length) 0 (N.tn k) (Nat.zero_le _)
      rw [Nat.sub_zero, show n % (N.tn k).length + 1 = (N.tn k).length by omega] at this
      exact this.symm
theorem fall_front {k : S} {p : Nat} (ht : 0 < (N.tn k).length) (hp : p < N.len k) (x : S) : ∀ m, p + m ≤ N.len k → N.fall k p m x = cr x (((N.rows k).drop p).take m)
  | 0, _ => by simp [fall, cr]
  | m + 1, h => by
    have e : N.plc k p m = p + m := by rw [N.plc_eq ht hp, if_pos (by omega)]
    show N.fall k p m x + (N.dropAt k (N.plc k p m)).count x = _
    have hlt : p + m < (N.rows k).length := by unfold len at h; omega
    rw [e, fall_front ht hp x m (by omega), List.take_succ, cr_append, List.getElem?_drop, List.getElem?_eq_getElem hlt]
    unfold dropAt
    rw [List.getD_eq_getElem?_getD, List.getElem?_eq_getElem hlt]
    simp [cr]
theorem fall_eq {k : S} {p : Nat} (ht : 0 < (N.tn k).length) (hp : p < N.len k) (x : S) (m : Nat) :
    N.fall k p m x = cr x (((N.rows k).drop p).take m) + ts x ((m - (N.len k - p)) / (N.tn k).length) ((m - (N.len k - p)) % (N.tn k).length) 0 (N.tn k) := by
  have hl : N.len k = (N.fr k).length + (N.tn k).length := by unfold len rows; rw [List.length_append]
  by_cases h : p + m ≤ N.len k
  · rw [N.fall_front ht hp x m h, show m - (N.len k - p) = 0 by omega, Nat.zero_div, Nat.zero_mod, ts_zero]; rfl
  · have e : m = (N.len k - p) + (m - (N.len k - p)) := by omega
    have e2 : N.plc k p (N.len k - p) = (N.fr k).length := by
      rw [N.plc_eq ht hp, if_neg (by omega), show p + (N.len k - p) - (N.fr k).length = (N.tn k).length by omega, Nat.mod_self]; rfl
    rw [show N.fall k p m x = N.fall k p ((N.len k - p) + (m - (N.len k - p))) x by rw [← e], fall_add, e2, N.fall_turn ht, N.fall_front ht hp x _ (by omega)]
    congr 2
    have : ((N.rows k).drop p).length = N.len k - p := by rw [List.length_drop]; rfl
    rw [List.take_of_length_le (by omega), List.take_of_length_le (by omega)]
end NetD
end K1
namespace K1
namespace Mat
def elim (b p f : Int) (r q : List Int) : List Int := (r.zip q).map fun z => (p * z.1 - f * z.2).fdiv b
def cell (M : List (List Int)) (i j : Nat) : Int := (M.getD i []).getD j 0
def sweep (b : Int) (a : Nat) (M : List (List Int)) : List (List Int) := M.mapIdx fun i r => if i ≤ a then r else elim b (cell M a a) (r.getD a 0) r (M.getD a [])
def mins (M : List (List Int)) (b : Int) (a : Nat) : Nat → List Int
  | 0 => []
  | n + 1 => if cell M a a ≤ 0 then [cell M a a] else cell M a a :: mins (sweep b a M) (cell M a a) (a + 1) n
def minors (M : List (List Int)) : List Int := mins M 1 0 M.length
def det : Nat → List (List Int) → Int
  | 0, _ => 1
  | n + 1, M => ((List.range M.length).map fun i => (if i % 2 = 0 then 1 else -1) * cell M i 0 * det n ((M.eraseIdx i).map List.tail)).sum
def lead (s : Nat) (M : List (List Int)) : List (List Int) := (M.take s).map (List.take s)
theorem fd1 (x : Int) : x.fdiv 1 = x := by rw [Int.fdiv_eq_ediv_of_nonneg _ (by decide)]; exact Int.ediv_one x
theorem fdx {a x y : Int} (h : 0 < a) (e : x = a * y) : x.fdiv a = y := by rw [e]; exact Int.mul_fdiv_cancel_left _ (by omega)
def d2 (a b c d : Int) : Int := a * d - c * b
def d3 (a b c d e f g h i : Int) : Int := a * (e * i - h * f) - d * (b * i - h * c) + g * (b * f - e * c)
theorem syl3 (a b c d e f g h i : Int) : d2 a b d e * d2 a c g i - d2 a b g h * d2 a c d f = a * d3 a b c d e f g h i := by
  simp only [d2, d3]; grind
theorem d2_syl (a b c d e f g h i : Int) : (a * e - d * b) * (a * i - g * c) - (a * h - g * b) * (a * f - d * c) = a * d3 a b c d e f g h i := by
  simp only [d3]; grind
theorem syl4 (a b c d e f g h i j k l m n o p : Int) :
    d3 a b c e f g i j k * d3 a b d e f h m n p - d3 a b c e f g m n o * d3 a b d e f h i j l =
      (a * f - e * b) * (a * d3 f g h j k l n o p - e * d3 b c d j k l n o p + i * d3 b c d f g h n o p - m * d3 b c d f g h j k l) := by
  simp only [d3]; grind
def good (M : List (List Int)) : Prop := ∀ s, 1 ≤ s → s ≤ M.length → 0 < det s (lead s M)
def last (l : List Int) : Int := l.getLast?.getD 0
theorem ends1 (a : Int) : good [[a]] ↔ 0 < last (minors [[a]]) := by
  have e : minors [[a]] = [a] := by
    simp [minors, mins, cell]
  rw [e]
  constructor
  · intro h
    have := h 1 (by simp) (by simp)
    simpa [det, lead, cell, last] using this
  · intro h s h1 h2
    have : s = 1 := by simp at h2; omega
    subst this
    simpa [det, lead, cell, last] using h
theorem ends2 (a b c d : Int) : good [[a, b], [c, d]] ↔ 0 < last (minors [[a, b], [c, d]]) := by
  have e : minors [[a, b], [c, d]] = if a ≤ 0 then [a] else [a, a * d - c * b] := by
    simp [minors, mins, cell, sweep, elim, fd1]
  have g1 : det 1 (lead 1 [[a, b], [c, d]]) = a := by simp [det, lead, cell]
  have g2 : det 2 (lead 2 [[a, b], [c, d]]) = a * d - c * b := by simp [det, lead, cell, List.range_succ]; grind
  rw [e]
  constructor
  · intro h
    have h1 := h 1 (by simp) (by simp)
    have h2 := h 2 (by simp) (by simp)
    rw [g1] at h1; rw [g2] at h2
    rw [if_neg (by omega)]
    simpa [last] using h2
  · intro h s h1 h2
    by_cases ha : a ≤ 0
    · rw [if_pos ha] at h; simp [last] at h; omega
    · rw [if_neg ha] at h
      have h : 0 < a * d - c * b := by simpa [last] using h
      have : s = 1 ∨ s = 2 := by simp at h2; omega
      rcases this with rfl | rfl
      · rw [g1]; omega
      · rw [g2]; exact h
theorem ends3 (a b c d e f g k i : Int) : good [[a, b, c], [d, e, f], [g, k, i]] ↔ 0 < last (minors [[a, b, c], [d, e, f], [g, k, i]]) := by
  have e1 : minors [[a, b, c], [d, e, f], [g, k, i]] = if a ≤ 0 then [a] else if a * e - d * b ≤ 0 then [a, a * e - d * b] else [a, a * e - d * b, ((a * e - d * b) * (a * i - g * c) - (a * k - g * b) * (a * f - d * c)).fdiv a] := by
    simp [minors, mins, cell, sweep, elim, fd1]
    split <;> (try rfl)
    split <;> rfl
  have g1 : det 1 (lead 1 [[a, b, c], [d, e, f], [g, k, i]]) = a := by simp [det, lead, cell]
  have g2 : det 2 (lead 2 [[a, b, c], [d, e, f], [g, k, i]]) = a * e - d * b := by simp [det, lead, cell, List.range_succ]; grind
  have g3 : det 3 (lead 3 [[a, b, c], [d, e, f], [g, k, i]]) = d3 a b c d e f g k i := by simp [det, lead, cell, List.range_succ, d3]; grind
  have key : 0 < a → ((a * e - d * b) * (a * i - g * c) - (a * k - g * b) * (a * f - d * c)).fdiv a = d3 a b c d e f g k i := fun ha => fdx ha (d2_syl a b c d e f g k i)
  generalize d3 a b c d e f g k i = D at *
  rw [e1]
  constructor
  · intro h
    have h1 := h 1 (by simp) (by simp)
    have h2 := h 2 (by simp) (by simp)
    have h3 := h 3 (by simp) (by simp)
    rw [g1] at h1; rw [g2] at h2; rw [g3] at h3
    rw [if_neg (by omega), if_neg (by omega), key h1]
    simpa [last] using h3
  · intro h s h1 h2
    by_cases ha : a ≤ 0
    · rw [if_pos ha] at h; simp [last] at h; omega
    · by_cases hb : a * e - d * b ≤ 0
      · rw [if_neg ha, if_pos hb] at h; simp [last] at h; omega
      · rw [if_neg ha, if_neg hb, key (by omega)] at h
        have h' : 0 < D := by simpa [last] using h
        have : s = 1 ∨ s = 2 ∨ s = 3 := by simp at h2; omega
        rcases this with rfl | rfl | rfl
        · rw [g1]; omega
        · rw [g2]; omega
        · rw [g3]; exact h'
theorem ends4 (a b c d e f g h i j k l m n o p : Int) : good [[a, b, c, d], [e, f, g, h], [i, j, k, l], [m, n, o, p]] ↔ 0 < last (minors [[a, b, c, d], [e, f, g, h], [i, j, k, l], [m, n, o, p]]) := by
  have e1 : minors [[a, b, c, d], [e, f, g, h], [i, j, k, l], [m, n, o, p]] = if a ≤ 0 then [a] else a :: (if a * f - e * b ≤ 0 then [a * f - e * b] else (a * f - e * b) ::
      (if ((a * f - e * b) * (a * k - i * c) - (a * j - i * b) * (a * g - e * c)).fdiv a ≤ 0 then [((a * f - e * b) * (a * k - i * c) - (a * j - i * b) * (a * g - e * c)).fdiv a] else
        ((a * f - e * b) * (a * k - i * c) - (a * j - i * b) * (a * g - e * c)).fdiv a ::
          [((((a * f - e * b) * (a * k - i * c) - (a * j - i * b) * (a * g - e * c)).fdiv a) * (((a * f - e * b) * (a * p - m * d) - (a * n - m * b) * (a * h - e * d)).fdiv a)
            - (((a * f - e * b) * (a * o - m * c) - (a * n - m * b) * (a * g - e * c)).fdiv a) * (((a * f - e * b) * (a * l - i * d) - (a * j - i * b) * (a * h - e * d)).fdiv a)).fdiv (a * f - e * b)])) := by
    simp [minors, mins, cell, sweep, elim, fd1]
  have g1 : det 1 (lead 1 [[a, b, c, d], [e, f, g, h], [i, j, k, l], [m, n, o, p]]) = a := by simp [det, lead, cell]
  have g2 : det 2 (lead 2 [[a, b, c, d], [e, f, g, h], [i, j, k, l], [m, n, o, p]]) = a * f - e * b := by simp [det, lead, cell, List.range_succ]; grind
  have g3 : det 3 (lead 3 [[a, b, c, d], [e, f, g, h], [i, j, k, l], [m, n, o, p]]) = d3 a b c e f g i j k := by simp [det, lead, cell, List.range_succ, d3]; grind
  have g4 : det 4 (lead 4 [[a, b, c, d], [e, f, g, h], [i, j, k, l], [m, n, o, p]]) = a * d3 f g h j k l n o p - e * d3 b c d j k l n o p + i * d3 b c d f g h n o p - m * d3 b c d f g h j k l := by
    simp [det, lead, cell, List.range_succ, d3]; grind
  have s4 := syl4 a b c d e f g h i j k l m n o p
  have k1 : 0 < a → ((a * f - e * b) * (a * k - i * c) - (a * j - i * b) * (a * g - e * c)).fdiv a = d3 a b c e f g i j k := fun ha => fdx ha (d2_syl a b c e f g i j k)
  have k2 : 0 < a → ((a * f - e * b) * (a * p - m * d) - (a * n - m * b) * (a * h - e * d)).fdiv a = d3 a b d e f h m n p := fun ha => fdx ha (d2_syl a b d e f h m n p)
  have k3 : 0 < a → ((a * f - e * b) * (a * o - m * c) - (a * n - m * b) * (a * g - e * c)).fdiv a = d3 a b c e f g m n o := fun ha => fdx ha (d2_syl a b c e f g m n o)
  have k4 : 0 < a → ((a * f - e * b) * (a * l - i * d) - (a * j - i * b) * (a * h - e * d)).fdiv a = d3 a b d e f h i j l := fun ha => fdx ha (d2_syl a b d e f h i j l)
  rw [e1]
  generalize a * d3 f g h j k l n o p - e * d3 b c d j k l n o p + i * d3 b c d f g h n o p - m * d3 b c d f g h j k l = D4 at *
  generalize ((a * f - e * b) * (a * k - i * c) - (a * j - i * b) * (a * g - e * c)).fdiv a = F1 at *
  generalize ((a * f - e * b) * (a * p - m * d) - (a * n - m * b) * (a * h - e * d)).fdiv a = F2 at *
  generalize ((a * f - e * b) * (a * o - m * c) - (a * n - m * b) * (a * g - e * c)).fdiv a = F3 at *
  generalize ((a * f - e * b) * (a * l - i * d) - (a * j - i * b) * (a * h - e * d)).fdiv a = F4 at *
  generalize a * f - e * b = D2 at *
  generalize d3 a b c e f g i j k = D3 at *
  generalize d3 a b d e f h m n p = E2 at *
  generalize d3 a b c e f g m n o = E3 at *
  generalize d3 a b d e f h i j l = E4 at *
  constructor
  · intro hh
    have h1 := hh 1 (by simp) (by simp)
    have h2 := hh 2 (by simp) (by simp)
    have h3 := hh 3 (by simp) (by simp)
    have h4 := hh 4 (by simp) (by simp)
    rw [g1] at h1; rw [g2] at h2; rw [g3] at h3; rw [g4] at h4
    rw [k1 h1, k2 h1, k3 h1, k4 h1, if_neg (by omega), if_neg (by omega), if_neg (by omega), fdx h2 s4]
    simpa [last] using h4
  · intro hh s h1 h2
    by_cases ha : a ≤ 0
    · rw [if_pos ha] at hh; simp [last] at hh; omega
    · by_cases hb : D2 ≤ 0
      · rw [if_neg ha, if_pos hb] at hh; simp [last] at hh; omega
      · have ha' : 0 < a := by omega
        rw [if_neg ha, if_neg hb, k1 ha', k2 ha', k3 ha', k4 ha', fdx (by omega) s4] at hh
        by_cases hc : D3 ≤ 0
        · rw [if_pos hc] at hh; simp [last] at hh; omega
        · rw [if_neg hc] at hh
          have h' : 0 < D4 := by simpa [last] using hh
          have : s = 1 ∨ s = 2 ∨ s = 3 ∨ s = 4 := by simp at h2; omega
          rcases this with rfl | rfl | rfl | rfl
          · rw [g1]; omega
          · rw [g2]; omega
          · rw [g3]; omega
          · rw [g4]; exact h'
def Sq (M : List (List Int)) : Prop := ∀ r ∈ M, r.length = M.length
theorem ends_iff {M : List (List Int)} (hM : Sq M) (h1 : 1 ≤ M.length) (h4 : M.length ≤ 4) : good M ↔ 0 < last (minors M) := by
  have l1 : ∀ {r : List Int}, r.length = 1 → ∃ a, r = [a] := fun {r} h => match r, h with | [a], _ => ⟨a, rfl⟩
  have l2 : ∀ {r : List Int}, r.length = 2 → ∃ a b, r = [a, b] := fun {r} h => match r, h with | [a, b], _ => ⟨a, b, rfl⟩
  have l3 : ∀ {r : List Int}, r.length = 3 → ∃ a b c, r = [a, b, c] := fun {r} h => match r, h with | [a, b, c], _ => ⟨a, b, c, rfl⟩
  have l4 : ∀ {r : List Int}, r.length = 4 → ∃ a b c d, r = [a, b, c, d] := fun {r} h => match r, h with | [a, b, c, d], _ => ⟨a, b, c, d, rfl⟩
  match M, h1, h4 with
  | [r1], _, _ =>
    obtain ⟨a, rfl⟩ := l1 (hM r1 (by simp))
    exact ends1 a
  | [r1, r2], _, _ =>
    obtain ⟨a, b, rfl⟩ := l2 (hM r1 (by simp))
    obtain ⟨c, d, rfl⟩ := l2 (hM r2 (by simp))
    exact ends2 a b c d
  | [r1, r2, r3], _, _ =>
    obtain ⟨a, b, c, rfl⟩ := l3 (hM r1 (by simp))
    obtain ⟨d, e, f, rfl⟩ := l3 (hM r2 (by simp))
    obtain ⟨g, h, i, rfl⟩ := l3 (hM r3 (by simp))
    exact ends3 a b c d e f g h i
  | [r1, r2, r3, r4], _, _ =>
    obtain ⟨a, b, c, d, rfl⟩ := l4 (hM r1 (by simp))
    obtain ⟨e, f, g, h, rfl⟩ := l4 (hM r2 (by simp))
    obtain ⟨i, j, k, l, rfl⟩ := l4 (hM r3 (by simp))
    obtain ⟨m, n, o, p, rfl⟩ := l4 (hM r4 (by simp))
    exact ends4 a b c d e f g h i j k l m n o p
  | _ :: _ :: _ :: _ :: _ :: _, _, h => simp at h
end Mat
end K1
namespace K1
open PySem PySem.Spec L2
open PyProof.Rows hiding St
def mapK (ks : List Str) (f : Str → V) : List (Key × V) := ks.map fun k => ((Sum.inr k : Key), f k)
def ins (ks : List Str) (k : Str) : List Str := if k ∈ ks then ks else ks ++ [k]
abbrev up {α : Type} (f : Str → α) (k : Str) (v : α) : Str → α := NetD.up f k v
theorem mapK_len (ks : List Str) (f : Str → V) : (mapK ks f).length = ks.length := by simp [mapK]
theorem inr_eq {a b : Str} : ((Sum.inr a : Key) = Sum.inr b) ↔ a = b := ⟨fun h => Sum.inr.inj h, fun h => by rw [h]⟩
theorem valV_mapK (ks : List Str) (f : Str → V) (k : Str) : valV (mapK ks f) (Sum.inr k) = if k ∈ ks then some (f k) else none := by
  induction ks with
  | nil => rfl
  | cons a ks ih =>
    show valV ((Sum.inr a, f a) :: mapK ks f) (Sum.inr k) = _
    by_cases e : a = k
    · subst e; rw [valV_pos rfl, if_pos (List.mem_cons_self ..)]
    · rw [valV_neg (fun h => e (inr_eq.mp h)), ih]
      have : (k ∈ a :: ks) ↔ k ∈ ks := ⟨fun h => (List.mem_cons.mp h).resolve_left fun z => e z.symm, fun h => List.mem_cons_of_mem _ h⟩
      simp only [this]
theorem mapK_congr {ks : List Str} {f g : Str → V} (h : ∀ k ∈ ks, f k = g k) : mapK ks f = mapK ks g := List.map_congr_left fun k hk => by rw [h k hk]
theorem putK_mapK (ks : List Str) (f : Str → V) (k : Str) (v : V) : putK (mapK ks f) (Sum.inr k) v = mapK (ins ks k) (up f k v) := by
  by_cases hk : k ∈ ks
  · have e : ((mapK ks f).any fun kv => decide (kv.1 = (Sum.inr k : Key))) = true := by rw [valV_any, valV_mapK, if_pos hk]; rfl
    unfold putK ins
    rw [if_pos e, if_pos hk]
    unfold mapK
    rw [List.map_map]
    refine List.map_congr_left fun a _ => ?_
    show (if (Sum.inr a : Key) = Sum.inr k then ((Sum.inr a : Key), v) else (Sum.inr a, f a)) = (Sum.inr a, up f k v a)
    by_cases e2 : a = k
    · subst e2; rw [if_pos rfl]; congr 1; exact (if_pos rfl).symm
    · rw [if_neg (fun h => e2 (inr_eq.mp h))]; congr 1; exact (if_neg e2).symm
  · rw [putK_new _ (by rw [valV_mapK, if_neg hk])]
    unfold ins
    rw [if_neg hk]
    unfold mapK
    rw [List.map_append]
    congr 1
    · refine List.map_congr_left fun a ha => ?_
      congr 1; exact (if_neg fun (z : a = k) => hk (z ▸ ha)).symm
    · show [((Sum.inr k : Key), v)] = [((Sum.inr k : Key), up f k v k)]
      rw [show up f k v k = v from if_pos rfl]
theorem ins_mem {ks : List Str} {k x : Str} : x ∈ ins ks k ↔ x ∈ ks ∨ x = k := by
  unfold ins
  by_cases h : k ∈ ks
  · rw [if_pos h]; exact ⟨.inl, fun z => z.elim id fun e => e ▸ h⟩
  · rw [if_neg h]; simp
theorem ins_nodup {ks : List Str} {k : Str} (h : ks.Nodup) : (ins ks k).Nodup := by
  unfold ins
  by_cases e : k ∈ ks
  · rw [if_pos e]; exact h
  · rw [if_neg e, List.nodup_append]
    exact ⟨h, by simp, fun a ha b hb => by simp at hb; subst hb; exact fun z => e (z ▸ ha)⟩
theorem ins_len {ks : List Str} {k : Str} : (ins ks k).length ≤ ks.length + 1 := by
  unfold ins
  split
  · omega
  · simp
theorem ins_same {ks : List Str} {k : Str} (h : k ∈ ks) : ins ks k = ks := if_pos h
theorem mergeK_snoc (a b : List (Key × V)) (p : Key × V) : mergeK a (b ++ [p]) = putK (mergeK a b) p.1 p.2 := by unfold mergeK; rw [List.foldl_append]; rfl
theorem merge_new (ks : List Str) (f : Str → V) (h : ks.Nodup) : mergeK [] (mapK ks f) = mapK ks f := by
  have key : ∀ (a b : List Str), (a ++ b).Nodup → mergeK (mapK a f) (mapK b f) = mapK (a ++ b) f := by
    intro a b
    induction b generalizing a with
    | nil => intro _; rw [List.append_nil]; rfl
    | cons k b ih =>
      intro hn
      show mergeK (putK (mapK a f) (Sum.inr k) (f k)) (mapK b f) = _
      have hk : k ∉ a := fun z => by
        have := List.nodup_append.mp hn
        exact this.2.2 k z k (List.mem_cons_self ..) rfl
      rw [putK_mapK, show ins a k = a ++ [k] from if_neg hk, mapK_congr (g := f) (fun x _ => by
        by_cases e : x = k
        · subst e; exact if_pos rfl
        · exact if_neg e), ih (a ++ [k]) (by rw [List.append_assoc]; exact hn), List.append_assoc]
      rfl
  exact key [] ks h
def RGet (x y : V) (H : Hp) (Q : VK) : Prop := ∃ a v, x = .ref a ∧ DGet H a y (some v) ∧ Q v H
def RIn (y x : V) (H : Hp) (Q : VK) : Prop := ∃ a o, x = .ref a ∧ DGet H a y o ∧ Q (.bl o.isSome) H
def RNotIn (y x : V) (H : Hp) (Q : VK) : Prop := ∃ a o, x = .ref a ∧ DGet H a y o ∧ Q (.bl (!o.isSome)) H
def RPut (x y v : V) (H : Hp) (R : Hp → Prop) : Prop := ∃ a H4, x = .ref a ∧ DPut H a y v H4 ∧ R H4
def RIsD (x : V) (H : Hp) (R : Addr → Prop) : Prop := ∃ a, x = .ref a ∧ IsD H a ∧ R a
def RGetO (a : Addr) (y z : V) (H : Hp) (Q : VK) : Prop := ∃ o, DGet H a y o ∧ Q (o.getD z) H
def RFld (K : PySem.W.Frag) (f : Str) (x : V) (H : Hp) (Q : VK) : Prop := ∃ a C dx fs v, x = .ref a ∧ H a = some (.ins C dx fs) ∧ Cls K C ∧ NoAttr K C f ∧ fs.lookup f = some v ∧ Q v H
def RNew' (o : HO) (H : Hp) (Q : VK) : Prop := ∀ p, H p = none → Q (.ref p) (upd H p o)
section
variable {K : PySem.W.Frag} {H : Hp} {σ : St} {Q : VK} {D : Ends} {td ty tx tv te : TE} {ts us : TS} {a : Addr} {ks : List Str} {f : Str → V} {k : Str} {z v : V} {kvs : List (Key × V)}
theorem w_dget (h : td σ H fun x H1 => ty σ H1 fun y H2 => RGet x y H2 Q) : tDGet td ty σ H Q := h
theorem w_din (h : ty σ H fun y H1 => td σ H1 fun x H2 => RIn y x H2 Q) : tDIn ty td σ H Q := h
theorem w_dnotin (h : ty σ H fun y H1 => td σ H1 fun x H2 => RNotIn y x H2 Q) : tDNotIn ty td σ H Q := h
theorem w_dput (h : tv σ H fun v H1 => td σ H1 fun x H2 => ty σ H2 fun y H3 => RPut x y v H3 fun H4 => D.nx σ H4) : sDPut td ty tv D σ H := h
theorem w_dget2 (h : td σ H fun x H1 => RIsD x H1 fun a => ty σ H1 fun y H2 => tx σ H2 fun z H3 => RGetO a y z H3 Q) : tDGet2 td ty tx σ H Q := h
theorem w_fld {m : Str} (h : te σ H fun x H1 => RFld K m x H1 Q) : tFld K te m σ H Q := h
theorem w_dnew (h : RNew (.dK []) H Q) : tDNewK σ H Q := h
theorem dget_K (h : H a = some (.dK (mapK ks f))) : DGet H a (.str k) (if k ∈ ks then some (f k) else none) := by
  rw [← valV_mapK]; exact DGet.k (k := Sum.inr k) h
theorem w_getK (h : H a = some (.dK (mapK ks f))) (hk : k ∈ ks) (q : Q (f k) H) : RGet (.ref a) (.str k) H Q := ⟨a, f k, rfl, by have := dget_K (k := k) h; rwa [if_pos hk] at this, q⟩
theorem w_inK (h : H a = some (.dK (mapK ks f))) (q : Q (.bl (decide (k ∈ ks))) H) : RIn (.str k) (.ref a) H Q := ⟨a, _, rfl, dget_K h, by
  by_cases e : k ∈ ks
  · rw [if_pos e]; rw [decide_eq_true e] at q; exact q
  · rw [if_neg e]; rw [decide_eq_false e] at q; exact q⟩
theorem w_notinK (h : H a = some (.dK (mapK ks f))) (q : Q (.bl (!decide (k ∈ ks))) H) : RNotIn (.str k) (.ref a) H Q := ⟨a, _, rfl, dget_K h, by
  by_cases e : k ∈ ks
  · rw [if_pos e]; rw [decide_eq_true e] at q; exact q
  · rw [if_neg e]; rw [decide_eq_false e] at q; exact q⟩
theorem w_isD {R : Addr → Prop} (h : H a = some (.dK kvs)) (q : R a) : RIsD (.ref a) H R := ⟨a, rfl, .inl ⟨kvs, .inl h⟩, q⟩
theorem w_getO (h : H a = some (.dK (mapK ks f))) (q : Q (if k ∈ ks then f k else z) H) : RGetO a (.str k) z H Q := ⟨_, dget_K h, by
  by_cases e : k ∈ ks
  · rw [if_pos e]; rw [if_pos e] at q; exact q
  · rw [if_neg e]; rw [if_neg e] at q; exact q⟩
theorem w_putK {R : Hp → Prop} (h : H a = some (.dK (mapK ks f))) (hl : ks.length ≤ 1000) (q : R (upd H a (.dK (mapK (ins ks k) (up f k v))))) : RPut (.ref a) (.str k) v H R :=
  ⟨a, _, rfl, DPut.k (k := Sum.inr k) h (small1000 (by rw [mapK_len]; exact hl)), by rw [putK_mapK]; exact q⟩
end
abbrev DI (ks : List Str) (f : Str → Int) : HO := .dK (mapK ks fun k => .int (f k))
def Zr (ks : List Str) (f : Str → Int) : Prop := ∀ k, k ∉ ks → f k = 0
theorem Zr.get {ks : List Str} {f : Str → Int} (h : Zr ks f) (k : Str) : (if k ∈ ks then V.int (f k) else .int 0) = .int (f k) := by
  by_cases e : k ∈ ks
  · rw [if_pos e]
  · rw [if_neg e, h k e]
theorem Zr.put {ks : List Str} {f : Str → Int} (h : Zr ks f) (k : Str) (v : Int) : Zr (ins ks k) (up f k v) := fun x hx => by
  have hx' := fun z => hx (ins_mem.mpr z)
  rw [show up f k v x = f x from if_neg fun z => hx' (.inr z)]
  exact h x fun z => hx' (.inl z)
theorem mapI_up (ks : List Str) (f : Str → Int) (k : Str) (v : Int) : mapK ks (up (fun k => V.int (f k)) k (.int v)) = mapK ks fun x => V.int (up f k v x) := mapK_congr fun x _ => by
  by_cases e : x = k
  · subst e; simp [up, NetD.up]
  · simp [up, NetD.up, e]
section
variable {K : PySem.W.Frag} {H : Hp} {Q : VK} {a : Addr} {ks : List Str} {f : Str → Int} {k : Str} {v : Int}
theorem w_getI (h : H a = some (DI ks f)) (hk : k ∈ ks) (q : Q (.int (f k)) H) : RGet (.ref a) (.str k) H Q := w_getK h hk q
theorem w_getOI (h : H a = some (DI ks f)) (hz : Zr ks f) (q : Q (.int (f k)) H) : RGetO a (.str k) (.int 0) H Q := w_getO h (by rw [hz.get]; exact q)
theorem w_putI {R : Hp → Prop} (h : H a = some (DI ks f)) (hl : ks.length ≤ 1000) (q : R (upd H a (DI (ins ks k) (up f k v)))) : RPut (.ref a) (.str k) (.int v) H R :=
  w_putK h hl (by rw [mapI_up]; exact q)
end
section
variable {K : PySem.W.Frag} {H : Hp} {Q : VK} {a C : Addr} {xs : List V} {kvs : List (Key × V)}
theorem ty_sqT (h : SqT K H a xs) : TyX K H (.ref a) (.type "tuple") := by
  rcases h with (h | ⟨o, h⟩) | ⟨o, its, n, h, hc, _⟩
  · exact .base (.tup h)
  · exact .fTuple h
  · exact .kTuple h hc
theorem ty_sqL (h : SqL K H a xs) : TyX K H (.ref a) (.type "list") := by
  rcases h with (h | ⟨o, h⟩) | ⟨o, its, n, h, hc, _⟩
  · exact .base (.lst h)
  · exact .base (.frz h)
  · exact .kList h hc
theorem w_isi {x c : V} {t u : Value} {b : Bool} (hc : ClsV c u) (ht : TyX K H x t) (hk : PySem.W.kitOne K t u = some b) (q : Q (.bl b) H) : rIsi K [x, c] H Q := ⟨x, c, t, u, b, rfl, hc, ht, hk, q⟩
theorem isi_int {i : Int} (q : Q (.bl true) H) : rIsi K [.int i, .ty "int"] H Q := w_isi (.ty _) (.base (.int i)) (kit_ty (by decide +kernel)) q
theorem isi_bl_int {c : Bool} (q : Q (.bl true) H) : rIsi K [.bl c, .ty "int"] H Q := w_isi (.ty _) (.base (.bl c)) (kit_ty (by decide +kernel)) q
theorem isi_int_bl {i : Int} (q : Q (.bl false) H) : rIsi K [.int i, .ty "bool"] H Q := w_isi (.ty _) (.base (.int i)) (kit_ty (by decide +kernel)) q
theorem isi_bl {c : Bool} (q : Q (.bl true) H) : rIsi K [.bl c, .ty "bool"] H Q := w_isi (.ty _) (.base (.bl c)) (kit_ty (by decide +kernel)) q
theorem isi_str {x : Str} (q : Q (.bl true) H) : rIsi K [.str x, .ty "str"] H Q := w_isi (.ty _) (.base (.str x)) (kit_ty (by decide +kernel)) q
theorem isi_tup (h : SqT K H a xs) (q : Q (.bl true) H) : rIsi K [.ref a, .ty "tuple"] H Q := w_isi (.ty _) (ty_sqT h) (kit_ty (by decide +kernel)) q
theorem isi_dict (h : H a = some (.dK kvs)) (q : Q (.bl true) H) : rIsi K [.ref a, .ty "dict"] H Q := w_isi (.ty _) (.base (.dK h)) (kit_ty (by decide +kernel)) q
theorem isi_non_dict (q : Q (.bl false) H) : rIsi K [.non, .ty "dict"] H Q := w_isi (.ty _) (.base .non) (kit_ty (by decide +kernel)) q
theorem isi_int_dict {i : Int} (q : Q (.bl false) H) : rIsi K [.int i, .ty "dict"] H Q := w_isi (.ty _) (.base (.int i)) (kit_ty (by decide +kernel)) q
theorem w_isiT {x : V} {tp : Addr} {cs : List V} {t : Value} {us : List Value} {b : Bool} (hp : H tp = some (.tup cs)) (hc : Paired ClsV cs us) (ht : TyX K H x t) (hk : PySem.W.kitAny K t us = some b) (q : Q (.bl b) H) : rIsiT K [x, .ref tp] H Q := ⟨x, tp, cs, t, us, b, rfl, hp, hc, ht, hk, q⟩
theorem isi_lt_L {tp : Addr} (hp : H tp = some (.tup [.ty "list", .ty "tuple"])) (h : SqL K H a xs) (q : Q (.bl true) H) : rIsiT K [.ref a, .ref tp] H Q :=
  w_isiT hp (.cons (.ty _) (.cons (.ty _) .nil)) (ty_sqL h) (kitAny_cons (b := true) (kit_ty (by decide +kernel)) (by intro z; cases z) fun _ => rfl) q
end
def rLeS : R2 := fun x y H Q => ∃ i j, x = .str i ∧ y = .str j ∧ Q (.bl (!decide (j.cps.toList < i.cps.toList))) H
theorem k_leS {X : Cx} : OpR X (compareOp .LtE) rLeS := op_le_str
theorem k_isN {X : Cx} : OpR X (compareOp .Is) rIsN := op_isN
theorem k_notN {X : Cx} : OpR X (compareOp .IsNot) rNotN := op_notN
section
variable {K : PySem.W.Frag} {H : Hp} {σ : St} {Q : VK} {a : Addr} {xs : List V} {bs : List Bool} {te to : TE} {t : TA} {D : Ends} {x : V}
theorem w_leS {i j : Str} (h : Q (.bl (!decide (j.cps.toList < i.cps.toList))) H) : rLeS (.str i) (.str j) H Q := ⟨i, j, rfl, rfl, h⟩
theorem w_isN (h : Q (.bl (decide (x = .non))) H) : rIsN x .non H Q := ⟨rfl, h⟩
theorem w_notN (h : Q (.bl (!decide (x = .non))) H) : rNotN x .non H Q := ⟨rfl, h⟩
theorem w_all (hs : SqL K H a (bs.map V.bl)) (h : Q (.bl (bs.all id)) H) : rAll K [.ref a] H Q := ⟨a, bs, rfl, hs, h⟩
theorem w_any (hs : SqL K H a (bs.map V.bl)) (h : Q (.bl (bs.any id)) H) : rAny K [.ref a] H Q := ⟨a, bs, rfl, hs, h⟩
theorem w_lenS {z : Str} (hz : z.length ≤ 100000) (h : Q (.int z.length) H) : rLenStr [.str z] H Q := ⟨z, rfl, sz hz, h⟩
theorem w_lenDv {kvs : List (Key × V)} (hd : H a = some (.dK kvs)) (h : Q (.int kvs.length) H) : rLenD [.ref a] H Q := ⟨a, kvs, rfl, hd, h⟩
theorem w_ixS {z : Str} {n : Int} {c : Nat} (hz : z.length ≤ 100000) (e : atI z.cps.toList n = some c) (h : Q (.str ⟨#[c]⟩) H) : rIxS (.str z) (.int n) H Q := ⟨z, n, c, rfl, rfl, sz hz, e, h⟩
theorem w_call {sp : Sp} {dvs : List V} {E : XK} (h : t σ H fun vs H1 => sp (vs ++ dvs) H1 Q E) : tCall sp dvs E t σ H Q := h
def RMeth (C : Addr) (m : Str) (x : V) (H : Hp) (R : Prop) : Prop := ∃ a dx fs, x = .ref a ∧ H a = some (.ins C dx fs) ∧ fs.lookup m = none ∧ R
theorem w_meth {C : Addr} {m : Str} {sp : Sp} {dvs : List V} {E : XK} (h : te σ H fun x H1 => RMeth C m x H1 (t σ H1 fun vs H2 => sp (x :: (vs ++ dvs)) H2 Q E)) : tMeth C m sp dvs E te t σ H Q := h
theorem w_rmeth {C dx : Addr} {m : Str} {fs : List (Str × V)} {R : Prop} (ho : H a = some (.ins C dx fs)) (hl : fs.lookup m = none) (h : R) : RMeth C m (.ref a) H R := ⟨a, dx, fs, rfl, ho, hl, h⟩
theorem w_rfld {C dx : Addr} {m : Str} {fs : List (Str × V)} {v : V} (ho : H a = some (.ins C dx fs)) (hc : Cls K C) (hn : NoAttr K C m) (hl : fs.lookup m = some v) (h : Q v H) : RFld K m (.ref a) H Q := ⟨a, C, dx, fs, v, rfl, ho, hc, hn, hl, h⟩
theorem w_bm {T : String} {r : V → List V → Hp → VK → Prop} (h : to σ H fun x H1 => tyV K T x H1 ∧ t σ H1 fun vs H2 => r x vs H2 Q) : tBM K T r to t σ H Q := h
theorem w_bm0 {T : String} {r : V → List V → Hp → VK → Prop} (h : to σ H fun x H1 => tyV K T x H1 ∧ r x [] H1 Q) : tBM0 K T r to σ H Q := h
theorem w_tyL {R : Prop} (h : SqL K H a xs) (r : R) : tyV K "list" (.ref a) H ∧ R := ⟨.inl ⟨rfl, _, h⟩, r⟩
theorem w_app {y : V} (ha : H a = some (.lst xs)) (hl : xs.length < 100000) (h : Q .non (upd H a (.lst (xs ++ [y])))) : rAppend (.ref a) [y] H Q := ⟨a, xs, y, rfl, rfl, ha, szlt hl, h⟩
end
section
variable {X : Cx} (K : PySem.W.Frag) (hK : X.K = K := by rfl)
include hK
theorem q_len : CallR X (.builtin "len") (rLen K) := hK ▸ k_len
theorem q_isi : CallR X (.builtin "isinstance") (rIsi K) := hK ▸ call_isi
theorem q_isiT : CallR X (.builtin "isinstance") (rIsiT K) := hK ▸ call_isiT
theorem q_list : CallR X (.type "list") (rListOf K) := hK ▸ k_list
theorem q_tuple : CallR X (.type "tuple") (rTupleOf K) := hK ▸ k_tuple
theorem q_sortS : CallR X (.builtin "sorted") (rSortedS K) := hK ▸ cr_sortedS
theorem q_ixL : IxR X (rIxL K) := hK ▸ ix_list
theorem q_ixT : IxR X (rIxT K) := hK ▸ ix_tup
theorem q_slL : SlR X (rSlL K) := hK ▸ sl_list
theorem q_catA : OpR X (binaryOp .Add) (rCatA K) := hK ▸ op_catA
end
theorem q_dictP {X : Cx} (K : PySem.W.Frag) (h : X.calm = true) (hK : X.K = K := by rfl) : CallR X (.type "dict") (rDictP K) := hK ▸ k_dictP h
theorem q_all {X : Cx} (K : PySem.W.Frag) (h : X.calm = true) (hK : X.K = K := by rfl) : CallR X (.builtin "all") (rAll K) := hK ▸ cr_all h
theorem q_any {X : Cx} (K : PySem.W.Frag) (h : X.calm = true) (hK : X.K = K := by rfl) : CallR X (.builtin "any") (rAny K) := hK ▸ cr_any h
theorem q_min {X : Cx} (K : PySem.W.Frag) (h : X.calm = true) (hK : X.K = K := by rfl) : CallR X (.builtin "min") (rMin K) := hK ▸ cr_min h
theorem q_eqD {X : Cx} (K : PySem.W.Frag) (h : X.A.units + 64 < cLine) (hK : X.K = K := by rfl) : OpR X (compareOp .Eq) (rEqD K) := hK ▸ op_eqD h
theorem q_neD {X : Cx} (K : PySem.W.Frag) (h : X.A.units + 64 < cLine) (hK : X.K = K := by rfl) : OpR X (compareOp .NotEq) (rNeD K) := hK ▸ op_neD h
section
variable {X : Cx} (K : PySem.W.Frag)
theorem q_fld {e : Expr} {f : Str} {pos : Pos} {ta : TE} (he : PE X e ta) (hb : attributeBase e f X.env (eval e X.env) = eval e X.env) (hK : X.K = K := by rfl) : PE X (.Attribute e f pos) (tFld K ta f) := hK ▸ pe_fld he hb
theorem qs_fld {o value : Expr} {f : Str} {pos pos' : Pos} {ta tv : TE} (ha : PE X o ta) (hv : PE X value tv) (hs : swapsWith value (some (.Attribute o f pos')) pos.line X.env = pure false) (hK : X.K = K := by rfl) : PS X (.Assign [.Attribute o f pos'] value pos) (sFld K ta tv f) := hK ▸ ps_fld ha hv hs
theorem qi_list {tg l : Expr} {tl : TE} (hl : PE X l tl) (hK : X.K = K := by rfl) : PI X tg l (iList K tl) := hK ▸ pi_list hl
theorem qi_tup {tg l : Expr} {tl : TE} (hl : PE X l tl) (hK : X.K = K := by rfl) : PI X tg l (iTup K tl) := hK ▸ pi_tup hl
theorem qi_enum {e : Expr} {ta : TA} {p pos tpos : Pos} {elts : List Expr} {kk : Nat} (hg : Gl X "enumerate") (hm : X.mg "enumerate" = none) (ha : PA X [e] ta) (hs : starEach [e] X.env = [(false, eval e X.env)] := by rfl) (hK : X.K = K := by rfl) :
    PI X (.Tuple elts kk tpos) (.Call (.Name "enumerate" p) [e] [] pos) (iEnum K ta) := hK ▸ pi_enum hg hm ha hs
theorem qi_zip {e e2 : Expr} {ta : TA} {p pos tpos : Pos} {elts : List Expr} {kk : Nat} (hg : Gl X "zip") (hm : X.mg "zip" = none) (ha : PA X [e, e2] ta)
    (hs : starEach [e, e2] X.env = (false, eval e X.env) :: starEach [e2] X.env := by rfl) (hpl : (backTo pos (starEach [e2] X.env)).any (·.1) = false := by rfl) (hK : X.K = K := by rfl) :
    PI X (.Tuple elts kk tpos) (.Call (.Name "zip" p) [e, e2] [] pos) (iZip K ta) := hK ▸ pi_zip hg hm ha hs hpl
theorem qg_tup {es : List Expr} {k : Nat} {t : TGs} {n : Nat} {pos : Pos} (hc : X.calm = true) (h : PGs X es t)
    (hn : (assignEach es X.env).length = n := by rfl) (hst : (assignEach es X.env).findIdx? (·.1) = none := by rfl) (hK : X.K = K := by rfl) : PG X (.Tuple es k pos) (gTup K n t) := hK ▸ pg_tup hc h hn hst
theorem qa_star {e : Expr} {es : List Expr} {p : Pos} {te : TE} {t : TA} (he : PE X e te) (ht : PA X es t) (hK : X.K = K := by rfl) : PA X (.Starred e p :: es) (StX.tStar K te t) := hK ▸ StX.pa_star he ht
variable {o e : Expr} {es : List Expr} {to : TE} {t : TA} {name : Str} {apos cpos : Pos} {T id : String} {r : V → List V → Hp → VK → Prop}
theorem q_bm0 (pa : PlainAttrs T) (slot : Slot T name id) (hty : typeOf (.builtin id) = pure (.type "method_descriptor")) (hm : MtR X id r) (ho : PE X o to)
    (hbase : attributeBase o name X.env (eval o X.env) = eval o X.env := by rfl) (hline : (apos.endLine == cpos.line) = true := by rfl) (hK : X.K = K := by rfl) : PE X (.Call (.Attribute o name apos) [] [] cpos) (tBM0 K T r to) := hK ▸ pe_bm0 pa slot hty hm ho hbase hline
theorem q_bm (pa : PlainAttrs T) (slot : Slot T name id) (hty : typeOf (.builtin id) = pure (.type "method_descriptor")) (hm : MtR X id r) (ho : PE X o to) (ha : PA X (e :: es) t)
    (hbase : attributeBase o name X.env (eval o X.env) = eval o X.env := by rfl)
    (hfew : ((backTo cpos (starEach (e :: es) X.env)).all (fun x => !x.1) && (backToKw cpos (keywordEach [] X.env)).all (fun x => x.1.isSome)
      && decide ((e :: es).length + ([] : List Keyword).length + (if ([] : List Keyword).isEmpty then 0 else 1) < 30)) = true := by rfl)
    (hline : (apos.endLine == cpos.line) = true := by rfl) (hs : starEach (e :: es) X.env = (false, eval e X.env) :: starEach es X.env := by rfl) (hplain : (backTo cpos (starEach es X.env)).any (·.1) = false := by rfl) (hK : X.K = K := by rfl) :
    PE X (.Call (.Attribute o name apos) (e :: es) [] cpos) (tBM K T r to t) := hK ▸ pe_bm pa slot hty hm ho ha hbase hfew hline hs hplain
end
end K1
namespace K1
open PySem PySem.Spec L2
open PyProof.Rows hiding St
def RLc (g : TG) (tt : TT) (te : TE) (vs : List Nat) (σ : St) (Q : VK) (J : It) (H1 : Hp) : Prop := ∀ D, H1 D = none → ∃ W : Nat → Nat → Hp → Prop, (∃ m, W 0 m (upd H1 D (.lst []))) ∧ ∀ i m H, W i m H →
  (J.stop i H ∧ Q (.ref D) H) ∨ (J.go i H ∧ ∃ Nx : Hp → Prop, (∀ H', Nx H' → ∃ m', m' < m ∧ W (i + 1) m' H') ∧ ∀ x H', J.yld i H x H' → g x (wipe σ vs) H' fun σ2 H2 => wipe σ2 vs = wipe σ vs ∧ tt σ2 H2 fun b H3 =>
    if b = true then te σ2 H3 fun y H4 => ∃ acc, H4 D = some (.lst acc) ∧ acc.length < sizeLine ∧ Nx (upd H4 D (.lst (acc ++ [y]))) else Nx H3)
def RDc (g : TG) (tt : TT) (tk tv : TE) (vs : List Nat) (σ : St) (Q : VK) (J : It) (H1 : Hp) : Prop := ∀ D, H1 D = none → ∃ W : Nat → Nat → Hp → Prop, (∃ m, W 0 m (upd H1 D (.dK []))) ∧ ∀ i m H, W i m H →
  (J.stop i H ∧ Q (.ref D) H) ∨ (J.go i H ∧ ∃ Nx : Hp → Prop, (∀ H', Nx H' → ∃ m', m' < m ∧ W (i + 1) m' H') ∧ ∀ x H', J.yld i H x H' → g x (wipe σ vs) H' fun σ2 H2 => wipe σ2 vs = wipe σ vs ∧ tt σ2 H2 fun b H3 =>
    if b = true then tk σ2 H3 fun y H4 => tv σ2 H4 fun z H5 => ∃ kvs k, y = kV k ∧ H5 D = some (.dK kvs) ∧ kvs.length < sizeLine ∧ Nx (upd H5 D (.dK (putK kvs k z))) else Nx H3)
def RStr (x : V) (R : It → Prop) : Prop := ∃ z, x = .str z ∧ R (Its z)
def REnum (K : PySem.W.Frag) (vs : List V) (H : Hp) (R : It → Prop) : Prop := ∃ a xs, vs = [.ref a] ∧ SqL K H a xs ∧ R (Ite K a)
def RZip (K : PySem.W.Frag) (vs : List V) (H : Hp) (R : It → Prop) : Prop := ∃ a b xs ys, vs = [.ref a, .ref b] ∧ SqL K H a xs ∧ SqL K H b ys ∧ R (Itz K a b)
def RTu (K : PySem.W.Frag) (n : Nat) (v : V) (H : Hp) (R : List V → Prop) : Prop := ∃ a xs, v = .ref a ∧ SqT K H a xs ∧ xs.length = n ∧ R xs
def RCons (vs : List V) (R : V → List V → Prop) : Prop := ∃ v r, vs = v :: r ∧ R v r
section
variable {K : PySem.W.Frag} {H H1 : Hp} {σ : St} {Q : VK} {D : Ends} {te tk tv : TE} {t : TA} {tt : TT} {g : TG} {gs : TGs} {vs : List Nat} {J : It} {n : Nat} {G : Hp → Prop} {Y : Nat → Hp → V → Hp → Prop} {ts : TS} {wi : TI}
theorem w_lc (h : wi σ H fun J H1 => RLc g tt te vs σ Q J H1) : tLc wi g tt te vs σ H Q := h
theorem w_dc (h : wi σ H fun J H1 => RDc g tt tk tv vs σ Q J H1) : tDc wi g tt tk tv vs σ H Q := h
theorem w_iStr {R : It → Hp → Prop} (h : te σ H fun x H1 => RStr x fun J => R J H1) : iStr te σ H R := h
theorem w_str {R : It → Prop} {z : Str} (h : R (Its z)) : RStr (.str z) R := ⟨z, rfl, h⟩
theorem w_iEnum {R : It → Hp → Prop} (h : t σ H fun vs H1 => REnum K vs H1 fun J => R J H1) : iEnum K t σ H R := h
theorem w_enum {R : It → Prop} {a : Addr} {xs : List V} (hs : SqL K H a xs) (h : R (Ite K a)) : REnum K [.ref a] H R := ⟨a, xs, rfl, hs, h⟩
theorem w_iZip {R : It → Hp → Prop} (h : t σ H fun vs H1 => RZip K vs H1 fun J => R J H1) : iZip K t σ H R := h
theorem w_zip {R : It → Prop} {a b : Addr} {xs ys : List V} (hs : SqL K H a xs) (hs2 : SqL K H b ys) (h : R (Itz K a b)) : RZip K [.ref a, .ref b] H R := ⟨a, b, xs, ys, rfl, hs, hs2, h⟩
theorem w_yes {R : Bool → Hp → Prop} (h : R true H) : tYes σ H R := h
theorem w_gtup {R : St → Hp → Prop} {v : V} (h : RTu K n v H fun xs => gs xs σ H R) : gTup K n gs v σ H R := h
theorem w_tu {R : List V → Prop} {a : Addr} {xs : List V} (hs : SqT K H a xs) (hl : xs.length = n) (h : R xs) : RTu K n (.ref a) H R := ⟨a, xs, rfl, hs, hl, h⟩
theorem w_gcons {R : St → Hp → Prop} {xs : List V} (h : RCons xs fun v r => g v σ H fun σ' H' => gs r σ' H' R) : gCons g gs xs σ H R := h
theorem w_rcons {R : V → List V → Prop} {v : V} {r : List V} (h : R v r) : RCons (v :: r) R := ⟨v, r, rfl, h⟩
theorem w_gnil {R : St → Hp → Prop} (h : R σ H) : gNil [] σ H R := ⟨rfl, h⟩
theorem rlc (w : Walk J n G Y) (R : Addr → Nat → List V → Hp → Prop) (hn : n ≤ 100000) (hG : ∀ H, Same H1 H → G H)
    (h0 : ∀ D H, H1 D = none → Same H1 H → H D = some (.lst []) → R D 0 [] H)
    (hR : ∀ D i acc H H', R D i acc H → (∀ b o, b ≠ D → H b = some o → H' b = some o) → R D i acc H')
    (hs : ∀ D i acc x H H', i < n → acc.length ≤ i → H1 D = none → H D = some (.lst acc) → Same H1 H → R D i acc H → Y i H x H' →
      ∀ (KT : V → Hp → Prop) (KF : Hp → Prop), (∀ y H4, Same H H4 → R D (i + 1) (acc ++ [y]) H4 → KT y H4) → (∀ H3, Same H H3 → R D (i + 1) acc H3 → KF H3) →
      g x (wipe σ vs) H' fun σ2 H2 => wipe σ2 vs = wipe σ vs ∧ tt σ2 H2 fun b H3 => RIte b (te σ2 H3 KT) (KF H3))
    (hd : ∀ D acc H, H1 D = none → Same H1 H → H D = some (.lst acc) → acc.length ≤ n → R D n acc H → Q (.ref D) H) : RLc g tt te vs σ Q J H1 := by
  intro D hD
  refine lc_it w (fun i H => Same H1 H ∧ ∃ acc, H D = some (.lst acc) ∧ acc.length ≤ i ∧ R D i acc H) ?_ ?_ ?_ ?_
  · exact ⟨Same.alloc hD, [], upd_same, Nat.le_refl _, h0 D _ hD (Same.alloc hD) upd_same⟩
  · rintro i H _ ⟨s, _⟩; exact hG H s
  · rintro i x H H' hi ⟨s, acc, e, hl, r⟩ y
    refine hs D i acc x H H' hi hl hD e s r y (fun y H4 => ∃ acc, H4 D = some (.lst acc) ∧ acc.length < sizeLine ∧ (Same H1 (upd H4 D (.lst (acc ++ [y]))) ∧ ∃ acc', (upd H4 D (.lst (acc ++ [y]))) D = some (.lst acc') ∧ acc'.length ≤ i + 1 ∧ R D (i + 1) acc' (upd H4 D (.lst (acc ++ [y])))))
      (fun H3 => Same H1 H3 ∧ ∃ acc, H3 D = some (.lst acc) ∧ acc.length ≤ i + 1 ∧ R D (i + 1) acc H3) (fun y H4 s4 r4 => ?_) fun H3 s3 r3 => ?_
    · refine ⟨acc, s4 _ _ e, szlt (by omega), Same.mut (s.trans s4) hD, acc ++ [y], upd_same, by simp; omega, hR _ _ _ _ _ r4 fun b o hb h => by rw [upd_ne hb]; exact h⟩
    · exact ⟨s.trans s3, acc, s3 _ _ e, by omega, r3⟩
  · rintro H ⟨s, acc, e, hl, r⟩
    exact hd D acc H hD s e hl r
theorem rlcV (w : Walk J n G Y) (R : Nat → List V → Prop) (hn : n ≤ 100000) (hG : ∀ H, Same H1 H → G H) (h0 : R 0 [])
    (hs : ∀ i acc x H H', i < n → acc.length ≤ i → Same H1 H → R i acc → Y i H x H' →
      ∀ (KT : V → Hp → Prop) (KF : Hp → Prop), (∀ y H4, Same H H4 → R (i + 1) (acc ++ [y]) → KT y H4) → (∀ H3, Same H H3 → R (i + 1) acc → KF H3) →
      g x (wipe σ vs) H' fun σ2 H2 => wipe σ2 vs = wipe σ vs ∧ tt σ2 H2 fun b H3 => RIte b (te σ2 H3 KT) (KF H3))
    (hd : ∀ D acc H, H1 D = none → Same H1 H → H D = some (.lst acc) → acc.length ≤ n → R n acc → Q (.ref D) H) : RLc g tt te vs σ Q J H1 :=
  rlc w (fun _ i acc _ => R i acc) hn hG (fun _ _ _ _ _ => h0) (fun _ _ _ _ _ r _ => r) (fun _ i acc x H H' hi hl _ _ s r y => hs i acc x H H' hi hl s r y) hd
theorem rdcV (w : Walk J n G Y) (ks : List Str) (f : Str → V) (hn : ks.length = n) (hz : n ≤ 1000) (hnd : ks.Nodup) (hG : ∀ H, Same H1 H → G H)
    (hs : ∀ i x H H' k, i < n → ks[i]? = some k → Same H1 H → Y i H x H' → ∀ (KT : V → V → Hp → Prop) (KF : Hp → Prop), (∀ H4, Same H H4 → KT (.str k) (f k) H4) →
      g x (wipe σ vs) H' fun σ2 H2 => wipe σ2 vs = wipe σ vs ∧ tt σ2 H2 fun b H3 => RIte b (tk σ2 H3 fun y H4 => tv σ2 H4 fun z H5 => KT y z H5) (KF H3))
    (hd : ∀ D H, H1 D = none → Same H1 H → H D = some (.dK (mapK ks f)) → Q (.ref D) H) : RDc g tt tk tv vs σ Q J H1 := by
  intro D hD
  refine ⟨fun i m H => m = n - i ∧ i ≤ n ∧ Same H1 H ∧ H D = some (.dK (mapK (ks.take i) f)), ⟨n, by simp, Nat.zero_le _, Same.alloc hD, by rw [upd_same]; rfl⟩, ?_⟩
  rintro i m H ⟨rfl, hi, s, e⟩
  by_cases hlt : i < n
  · refine .inr ⟨w.goes i H hlt (hG H s), fun H' => i < n ∧ Same H1 H' ∧ H' D = some (.dK (mapK (ks.take (i + 1)) f)), fun H' z => ⟨n - (i + 1), by omega, rfl, hlt, z.2⟩, fun x H' y => ?_⟩
    have hk : i < ks.length := by omega
    have hnd' : ks[i] ∉ ks.take i := fun z => by
      obtain ⟨j, hj, ej⟩ := List.mem_iff_getElem.mp z
      rw [List.length_take] at hj
      rw [List.getElem_take] at ej
      exact List.pairwise_iff_getElem.mp hnd j i (by omega) hk (by omega) ej
    refine hs i x H H' ks[i] hlt (List.getElem?_eq_getElem hk) s (w.yields i H x H' hlt (hG H s) y)
      (fun y z H5 => ∃ kvs k, y = kV k ∧ H5 D = some (.dK kvs) ∧ kvs.length < sizeLine ∧ (i < n ∧ Same H1 (upd H5 D (.dK (putK kvs k z))) ∧ (upd H5 D (.dK (putK kvs k z))) D = some (.dK (mapK (ks.take (i + 1)) f))))
      (fun H' => i < n ∧ Same H1 H' ∧ H' D = some (.dK (mapK (ks.take (i + 1)) f))) fun H4 s4 => ?_
    refine ⟨_, Sum.inr ks[i], rfl, s4 _ _ e, ?_, hlt, Same.mut (s.trans s4) hD, ?_⟩
    · rw [mapK_len, List.length_take]; exact szlt (by omega)
    · rw [upd_same, putK_mapK, show ins (ks.take i) ks[i] = ks.take i ++ [ks[i]] from if_neg hnd', mapK_congr (g := f) (fun x _ => by
        by_cases e : x = ks[i]
        · subst e; exact NetD.up_same
        · exact NetD.up_ne e), List.take_succ, List.getElem?_eq_getElem hk]; rfl
  · have : i = n := by omega
    subst this
    exact .inl ⟨w.stops H (hG H s), hd D H hD s (by rw [e, List.take_of_length_le (by omega)])⟩
def RWT (ts : TS) (D : Ends) (W : Nat → St → Hp → Prop) (m : Nat) (σ : St) (H1 : Hp) : Prop := ∃ N : St → Hp → Prop, (∀ σ' H', N σ' H' → ∃ m', m' < m ∧ W m' σ' H') ∧ ts { D with nx := N, ct := N, bk := D.nx } σ H1
theorem w_while {c : TT} (W : Nat → St → Hp → Prop) (m0 : Nat) (h0 : W m0 σ H) (hs : ∀ m σ H, W m σ H → c σ H fun b H1 => RIte b (RWT ts D W m σ H1) (D.nx σ H1)) : tWhile c ts D σ H := ⟨W, ⟨m0, h0⟩, hs⟩
theorem w_wt {W : Nat → St → Hp → Prop} {m : Nat} (h : ts { D with nx := fun σ' H' => ∃ m', m' < m ∧ W m' σ' H', ct := fun σ' H' => ∃ m', m' < m ∧ W m' σ' H', bk := D.nx } σ H1) : RWT ts D W m σ H1 := ⟨_, fun _ _ z => z, h⟩
theorem w_pop {a : Addr} {xs : List V} {y : V} (ha : H a = some (.lst (xs ++ [y]))) (h : Q y (upd H a (.lst xs))) : rPop (.ref a) [] H Q := ⟨a, xs ++ [y], y, rfl, rfl, ha, by simp, by rw [List.dropLast_concat]; exact h⟩
theorem w_ext {a b : Addr} {xs zs : List V} (ha : H a = some (.lst xs)) (hb : H b = some (.lst zs)) (hz : xs.length + zs.length ≤ 100000) (h : Q .non (upd H a (.lst (xs ++ zs)))) : rExtend (.ref a) [.ref b] H Q := ⟨a, b, xs, zs, rfl, rfl, ha, hb, sz hz, h⟩
end
end K1
namespace K1
open PySem PySem.Spec L2
open PyProof.Rows hiding St
def RowAt (K : PySem.W.Frag) (H : Hp) (a : Addr) (r : List (List Str)) : Prop := ∃ ds : List Addr, SqT K H a (ds.map V.ref) ∧ Paired (fun d dr => SqT K H d (dr.map V.str)) ds r
def KnAt (K : PySem.W.Frag) (H : Hp) (a : Addr) (fr tn : List (List Str)) : Prop := ∃ f t, SqT K H a [.ref f, .ref t] ∧ RowAt K H f fr ∧ RowAt K H t tn
def KnotsAt (K : PySem.W.Frag) (H : Hp) (d : Addr) (N : NetD) : Prop := ∃ ka : Str → Addr, H d = some (.dK (mapK N.names fun k => .ref (ka k))) ∧ ∀ k ∈ N.names, KnAt K H (ka k) (N.fr k) (N.tn k)
theorem paired_get {α β : Type} {F : α → β → Prop} : ∀ {xs : List α} {ys : List β} {i : Nat} {y : β}, Paired F xs ys → ys[i]? = some y → ∃ x, xs[i]? = some x ∧ F x y
  | _, _, _, _, .nil, h => by simp at h
  | _, _, 0, _, .cons r _, h => by simp at h; subst h; exact ⟨_, rfl, r⟩
  | _, _, i + 1, _, .cons _ t, h => by
    obtain ⟨x, h1, h2⟩ := paired_get (i := i) t (by simpa using h)
    exact ⟨x, by simpa using h1, h2⟩
theorem paired_len {α β : Type} {F : α → β → Prop} : ∀ {xs : List α} {ys : List β}, Paired F xs ys → xs.length = ys.length
  | _, _, .nil => rfl
  | _, _, .cons _ t => congrArg Nat.succ (paired_len t)
theorem paired_imp {α β : Type} {F G : α → β → Prop} : ∀ {xs : List α} {ys : List β}, Paired F xs ys → (∀ x y, F x y → G x y) → Paired G xs ys
  | _, _, .nil, _ => .nil
  | _, _, .cons r t, h => .cons (h _ _ r) (paired_imp t h)
theorem paired_snoc {α β : Type} {F : α → β → Prop} {x : α} {y : β} : ∀ {xs : List α} {ys : List β}, Paired F xs ys → F x y → Paired F (xs ++ [x]) (ys ++ [y])
  | _, _, .nil, h => .cons h .nil
  | _, _, .cons r t, h => .cons r (paired_snoc t h)
theorem paired_app {α β : Type} {F : α → β → Prop} : ∀ {xs : List α} {ys : List β} {xs' : List α} {ys' : List β}, Paired F xs ys → Paired F xs' ys' → Paired F (xs ++ xs') (ys ++ ys')
  | _, _, _, _, .nil, h => h
  | _, _, _, _, .cons r t, h => .cons r (paired_app t h)
section
variable {K : PySem.W.Frag} {H H' : Hp} {a d : Addr} {r fr tn : List (List Str)} {N : NetD}
theorem RowAt.same (e : Same H H') (h : RowAt K H a r) : RowAt K H' a r := by
  obtain ⟨ds, h1, h2⟩ := h
  exact ⟨ds, Same.sqt e h1, paired_imp h2 fun _ _ z => Same.sqt e z⟩
theorem KnAt.same (e : Same H H') (h : KnAt K H a fr tn) : KnAt K H' a fr tn := by
  obtain ⟨f, t, h1, h2, h3⟩ := h
  exact ⟨f, t, Same.sqt e h1, h2.same e, h3.same e⟩
theorem KnotsAt.same (e : Same H H') (h : KnotsAt K H d N) : KnotsAt K H' d N := by
  obtain ⟨ka, h1, h2⟩ := h
  exact ⟨ka, e _ _ h1, fun k hk => (h2 k hk).same e⟩
end
abbrev kl : List Str := ["a", "b", "c", "d"]
structure NetD.Ok (N : NetD) : Prop where
  nm : ∃ n, 1 ≤ n ∧ n ≤ 4 ∧ N.names = kl.take n
  fl : ∀ k ∈ N.names, (N.fr k).length ≤ 2
  tl : ∀ k ∈ N.names, 1 ≤ (N.tn k).length ∧ (N.tn k).length ≤ 5
  dr : ∀ k ∈ N.names, ∀ d ∈ N.fr k ++ N.tn k, d.length ≤ 2 ∧ ∀ t ∈ d, t ∈ N.names ∨ t = "o" ∨ t = "p"
  ch : ∀ i k l, N.names[i]? = some k → N.names[i + 1]? = some l → [l] ∈ N.tn k
  jk : N.jk ∈ N.names
theorem kl_nodup : kl.Nodup := by decide +kernel
theorem kl_no : ("o" : Str) ∉ kl ∧ ("p" : Str) ∉ kl ∧ ("i" : Str) ∉ kl ∧ ("j" : Str) ∉ kl := by decide +kernel
namespace NetD.Ok
variable {N : NetD} (h : N.Ok)
include h
theorem sub {k : Str} (hk : k ∈ N.names) : k ∈ kl := by
  obtain ⟨n, _, _, e⟩ := h.nm
  rw [e] at hk
  exact List.mem_of_mem_take hk
theorem nodup : N.names.Nodup := by
  obtain ⟨n, _, _, e⟩ := h.nm
  rw [e]
  exact List.Sublist.nodup (List.take_sublist _ _) kl_nodup
theorem len : 1 ≤ N.names.length ∧ N.names.length ≤ 4 := by
  obtain ⟨n, h1, h2, e⟩ := h.nm
  rw [e, List.length_take, show kl.length = 4 from rfl]
  omega
theorem no_o : ("o" : Str) ∉ N.names := fun z => kl_no.1 (h.sub z)
theorem no_p : ("p" : Str) ∉ N.names := fun z => kl_no.2.1 (h.sub z)
theorem no_i : ("i" : Str) ∉ N.names := fun z => kl_no.2.2.1 (h.sub z)
theorem no_j : ("j" : Str) ∉ N.names := fun z => kl_no.2.2.2 (h.sub z)
theorem a_in : ("a" : Str) ∈ N.names := by
  obtain ⟨n, h1, _, e⟩ := h.nm
  rw [e]
  match n, h1 with
  | n + 1, _ => exact List.mem_cons_self ..
theorem pos {k : Str} (hk : k ∈ N.names) : 0 < (N.tn k).length := (h.tl k hk).1
theorem len_lt {k : Str} (hk : k ∈ N.names) : N.len k ≤ 7 := by
  have h1 := h.fl k hk
  have h2 := h.tl k hk
  unfold NetD.len NetD.rows
  rw [List.length_append]
  omega
end NetD.Ok
end K1
namespace K1
open PySem PySem.Spec L2
open PyProof.Rows hiding St
def tStarD (te : TE) (t : TA) : TA := fun σ H Q => te σ H fun x H1 => ∃ p kvs, x = V.ref p ∧ H1 p = some (.dK kvs) ∧ t σ H1 fun ys H2 => Q ((kvs.map fun kv => kV kv.1) ++ ys) H2
section
variable {X : Cx} {pins : List (Addr × Obj)} {σ : St} {H : Hp} {s : Shared}
theorem star_dict {a : Addr} {kvs : List (Key × V)} {E : Value → Shared → Prop} {Q : List Value → Shared → Prop} (I : Inv X pins σ H s) (hc : X.calm = true) (hd : H a = some (.dK kvs))
    (hQ : ∀ us s', Inv X pins σ H s' → Vals (kvs.map fun kv => kV kv.1) us → Q us s') : PySem.W.StarOf (model X.prog X.w) X.A E (.ref a) Q s := by
  obtain ⟨z, lo, vs, rel, dd⟩ := dk_of I.hok hd
  obtain ⟨ep, hat⟩ := dd.dictAt
  have ek : (kvs.map fun kv => kV kv.1) = vs.map fun p => kV p.1 := by
    have e := congrArg (List.map kV) rel.keys
    rw [List.map_map, List.map_map] at e
    exact e
  have z2 : wpAny (model X.prog X.w) X.A (collect (.ref a)) Q E s := by
    refine PySem.W.kdu_collect (PySem.W.kdl_dict (knd := mixKind X.prog X.w) (kvs := vs) (ep := ep) lo) (I.ok.hd hc) hat (by rw [← rel.length]; exact z) fun h' tk acc hk hacc => ?_
    have hv : Vals (vs.map fun p => kV p.1) acc.toList := keys_at (by rw [Array.length_toList]; exact hacc.1) fun j v e => hacc.2 j v (by rw [← Array.getElem?_toList]; exact e)
    exact hQ _ _ (I.kept (t' := tk) hk) (by rw [ek]; exact hv)
  unfold PySem.W.StarOf notIterableAtAll
  exact wpAny_bind (wpAny_specialOf dd.typeIs PySem.F.slot_dict_iter.lookup (wpAny_pure ⟨rfl, z2⟩))
end
section
variable {X : Cx} {e : Expr} {es : List Expr} {te : TE} {t : TA} {p : Pos}
theorem pa_starD (hc : X.calm = true) (he : PE X e te) (hr : PA X es t) (hs : starEach (.Starred e p :: es) X.env = (true, eval e X.env) :: starEach es X.env := by rfl) : PA X (.Starred e p :: es) (tStarD te t) := by
  refine ⟨fun pos pins s σ H Q I h => ?_⟩
  refine PySem.W.items_star (thn (he.run pins s σ H _ I h) fun v s1 ⟨y, H1, I1, ry, a, kvs, ey, hx, q⟩ => ?_) hs
  subst ey
  obtain rfl : v = Value.ref a := ry
  refine star_dict I1 hc hx fun us s2 I2 rv => ?_
  exact thn (hr.run pos pins s2 σ H1 _ I2 q) fun ws s3 ⟨vs, H3, I3, r3, q3⟩ => ⟨(kvs.map fun kv => kV kv.1) ++ vs, H3, I3, rv.append r3, q3⟩
end
def tListVals (te : TE) : TE := fun σ H Q => te σ H fun x H1 => ∃ (d : Addr) (kvs : List (Key × V)), x = .ref d ∧ H1 d = some (.dK kvs) ∧ ∀ p, H1 p = none → Q (.ref p) (upd H1 p (.lst (kvs.map (·.2))))
section
variable {X : Cx} {e : Expr} {te : TE} {p apos cpos pos : Pos}
theorem vals_at : ∀ {us : List Value} {kvs : List (Key × V)} {vs : List (Key × Value)}, KV kvs vs → us.length = vs.length → (∀ (j : Nat) (v : Value), us[j]? = some v → ∃ k, vs[j]? = some (k, v)) → Vals (kvs.map (·.2)) us
  | [], _, _, .nil, _, _ => .nil
  | u :: us, _, _, .cons r t, hl, h => by
    obtain ⟨k, e⟩ := h 0 u rfl
    cases Option.some.inj e
    exact .cons r.2 (vals_at t (Nat.succ.inj hl) fun j v ej => h (j + 1) v ej)
  | [], _, _, .cons _ _, hl, _ => nomatch hl
  | _ :: _, _, _, .nil, hl, _ => nomatch hl
theorem pe_listValues (hc : X.calm = true) (he : PE X e te) (hg : Gl X "list") (hm : X.mg "list" = none) (hv : bootBuiltins "list" = some (.type "list")) (hbase : attributeBase e "values" X.env (eval e X.env) = eval e X.env := by rfl) (hline : (apos.endLine == cpos.line) = true := by rfl)
    (hs : starEach [.Call (.Attribute e "values" apos) [] [] cpos] X.env = (false, eval (.Call (.Attribute e "values" apos) [] [] cpos) X.env) :: starEach [] X.env := by rfl) :
    PE X (.Call (.Name "list" p) [.Call (.Attribute e "values" apos) [] [] cpos] [] pos) (tListVals te) := by
  refine ⟨fun pins s σ H Q I hq => ?_⟩
  refine wpAny_Call_Name_kw (ld_blt I hg hm hv ?_)
  refine PyProof.Rows.callWith_type1 ?_ hs rfl
  rw [hs]
  show wpAny _ _ (spliced ((false, eval (.Call (.Attribute e "values" apos) [] [] cpos) X.env) :: backTo pos (starEach [] X.env))) _ _ s
  refine Calls.spliced_cons ?_
  refine wpAny_Call_method (T := "dict") (id := "dict.values") hbase rfl hline F.plainAttrs_dict F.slot_dict_values F.type_dict_values (thn (he.run pins s σ H _ I hq) fun u s1 ⟨x, H1, I1, rx, d, kvs, ex, hd, q⟩ => ?_)
  subst ex
  obtain rfl : u = Value.ref d := rx
  obtain ⟨hz, hs0, vs, kv, hdo⟩ := I1.hok d _ hd
  obtain ⟨ep, hat⟩ := hdo.dictAt
  have lk : kvs.length = vs.length := Paired.length kv
  have I2 : Inv X pins σ H1 { s1 with heap := s1.heap.push { cls := .type "dict_values", data := .fields #[.ref d] } } := I1.kept (t' := s1.toks) fun b ob q => Heap.get?_push_of_some _ q
  refine ⟨hdo.typeIs, hdo.mapOf.noDict, ?_⟩
  show wpAny _ _ (callWith cpos (.builtin "dict.values") [.ref d] [] []) _ X.xe s1
  refine method_meetsIn F.slot_dict_values F.entry_dict_values rfl (PySem.evalArgs_none ⟨rfl, hdo.typeIs, F.args_dict_values_1 _, _, meets_dict_values (mixKind X.prog X.w) d hs0, ⟨vs, hdo⟩, ?_⟩)
  refine Calls.spliced_nil ?_
  refine PySem.W.kdl_call (PySem.W.kdl_values (knd := mixKind X.prog X.w) (kvs := vs) (ep := ep)) (I1.ok.hd hc) ⟨⟨_, Heap.get?_push_size _ rfl, rfl, rfl⟩, hat.push _⟩ (by omega) fun h' tk acc c' hk hD hacc => ?_
  have hv : Vals (kvs.map (·.2)) acc.toList := vals_at kv (by rw [Array.length_toList]; exact hacc.1) fun j v e => hacc.2 j v (by rw [← Array.getElem?_toList]; exact e)
  have hsz : (s1.heap.push { cls := .type "dict_values", data := .fields #[.ref d] }).objs.size = s1.heap.objs.size + 1 := Heap.size_push _ _
  refine ⟨.ref (s1.heap.push { cls := .type "dict_values", data := .fields #[.ref d] }).objs.size, upd H1 (s1.heap.push { cls := .type "dict_values", data := .fields #[.ref d] }).objs.size (.lst (kvs.map (·.2))), I2.laid (t' := tk) hk (Nat.le_refl _)
    (show ObjOk X.prog X.w _ _ _ (.lst (kvs.map (·.2))) from ⟨by rw [List.length_map]; exact hz, acc.toList, c', hv, by rw [Array.toArray_toList]; exact hD⟩), rfl, q _ (I2.hok.fresh (Nat.le_refl _))⟩
end
def rEqDF : R2 := fun x y H Q => ∃ a b ks ls, x = .ref a ∧ y = .ref b ∧ H a = some (.dK ks) ∧ H b = some (.dK ls) ∧ ks.length ≠ ls.length ∧ Q (.bl false) H
theorem op_eqDF {X : Cx} (hu : X.A.units < cLine) : OpR X (compareOp .Eq) rEqDF := by
  intro pins s σ H x y v u Q I rx ry h
  obtain ⟨a, b, ks, ls, rfl, rfl, ea, eb, hlen, q⟩ := h
  obtain rfl : v = Value.ref a := rx
  obtain rfl : u = Value.ref b := ry
  obtain ⟨_, ya, va, ra, da⟩ := (show ObjOk X.prog X.w H s.heap a (.dK ks) from I.hok a _ ea)
  obtain ⟨_, yb, vb, rb, db⟩ := (show ObjOk X.prog X.w H s.heap b (.dK ls) from I.hok b _ eb)
  have hl : va.length ≠ vb.length := by rw [← ra.length, ← rb.length]; exact hlen
  refine PySem.W.keq_eq (knd := mixKind X.prog X.w) (r := true) ya yb da db hu (fun z => absurd z hl) ?_
  have : (va.length == vb.length && true) = false := by simp [hl]
  rw [this]
  exact ⟨.bl false, H, I, rfl, q⟩
section
variable {H : Hp} {σ : St} {Q : VK} {te : TE} {t : TA} {a b : Addr} {ks ls : List (Key × V)}
def RStarD (x : V) (H : Hp) (R : List V → Prop) : Prop := ∃ p kvs, x = V.ref p ∧ H p = some (.dK kvs) ∧ R (kvs.map fun kv => kV kv.1)
theorem w_starD {R : List V → Hp → Prop} (h : te σ H fun x H1 => RStarD x H1 fun xs => t σ H1 fun ys H2 => R (xs ++ ys) H2) : tStarD te t σ H R := by
  exact h
def RStarT (K : PySem.W.Frag) (x : V) (H : Hp) (R : List V → Prop) : Prop := ∃ p xs, x = V.ref p ∧ (SqT K H p xs ∨ SqL K H p xs) ∧ R xs
theorem w_starT {K : PySem.W.Frag} {R : List V → Hp → Prop} (h : te σ H fun x H1 => RStarT K x H1 fun xs => t σ H1 fun ys H2 => R (xs ++ ys) H2) : StX.tStar K te t σ H R := h
theorem w_stD {R : List V → Prop} (hd : H a = some (.dK ks)) (h : R (ks.map fun kv => kV kv.1)) : RStarD (.ref a) H R := ⟨a, ks, rfl, hd, h⟩
theorem w_stT {K : PySem.W.Frag} {xs : List V} {R : List V → Prop} (hd : SqT K H a xs) (h : R xs) : RStarT K (.ref a) H R := ⟨a, xs, rfl, .inl hd, h⟩
theorem w_stL {K : PySem.W.Frag} {xs : List V} {R : List V → Prop} (hd : SqL K H a xs) (h : R xs) : RStarT K (.ref a) H R := ⟨a, xs, rfl, .inr hd, h⟩
def RLV (x : V) (H : Hp) (Q : VK) : Prop := ∃ (d : Addr) (kvs : List (Key × V)), x = .ref d ∧ H d = some (.dK kvs) ∧ ∀ p, H p = none → Q (.ref p) (upd H p (.lst (kvs.map (·.2))))
theorem w_listVals (h : te σ H fun x H1 => RLV x H1 Q) : tListVals te σ H Q := h
theorem w_lv (hd : H a = some (.dK ks)) (h : ∀ p H', H p = none → Same H H' → H' p = some (.lst (ks.map (·.2))) → Q (.ref p) H') : RLV (.ref a) H Q := ⟨a, ks, rfl, hd, fun p hp => h p _ hp (Same.alloc hp) upd_same⟩
theorem w_eqDF (ha : H a = some (.dK ks)) (hb : H b = some (.dK ls)) (hl : ks.length ≠ ls.length) (h : Q (.bl false) H) : rEqDF (.ref a) (.ref b) H Q := ⟨a, b, ks, ls, rfl, rfl, ha, hb, hl, h⟩
end
end K1
namespace K1
open PySem PySem.Spec L2
open PyProof.Rows hiding St
def leS (a b : Str) : Prop := ¬ b.cps.toList < a.cps.toList
theorem leS_trans {a b c : Str} (h1 : leS a b) (h2 : leS b c) : leS a c := by
  have h1' : a.cps.toList ≤ b.cps.toList := h1
  have h2' : b.cps.toList ≤ c.cps.toList := h2
  exact List.le_trans h1' h2'
theorem leS_anti {a b : Str} (h1 : leS a b) (h2 : leS b a) : a = b := by
  have h1' : a.cps.toList ≤ b.cps.toList := h1
  have h2' : b.cps.toList ≤ a.cps.toList := h2
  have := List.le_antisymm h1' h2'
  obtain ⟨⟨x⟩⟩ := a
  obtain ⟨⟨y⟩⟩ := b
  simpa using this
theorem rising_pw : ∀ (p : Str) (l : List Str), risingS p l = true → (∀ x ∈ l, leS p x) ∧ l.Pairwise leS
  | _, [], _ => ⟨fun _ h => (List.not_mem_nil h).elim, .nil⟩
  | p, x :: r, h => by
    have h' : (!ltCps x.cps.toList p.cps.toList && risingS x r) = true := h
    rw [Bool.and_eq_true_iff] at h'
    obtain ⟨h1, h2⟩ := h'
    obtain ⟨i1, i2⟩ := rising_pw x r h2
    have hp : leS p x := by
      rw [ltCps_eq] at h1
      simpa [leS] using h1
    exact ⟨fun y hy => by
      rcases List.mem_cons.mp hy with rfl | hy
      · exact hp
      · exact leS_trans hp (i1 y hy), List.pairwise_cons.mpr ⟨i1, i2⟩⟩
theorem sorted_pw (l : List Str) (h : sortedS l = true) : l.Pairwise leS := by
  cases l with
  | nil => exact .nil
  | cons x r => obtain ⟨h1, h2⟩ := rising_pw x r h; exact List.pairwise_cons.mpr ⟨h1, h2⟩
theorem sorted_one {ys xs : List Str} (hp : ys.Perm xs) (hs : sortedS ys = true) (hx : sortedS xs = true) : ys = xs :=
  List.Perm.eq_of_pairwise (fun _ _ _ _ h1 h2 => leS_anti h1 h2) (sorted_pw _ hs) (sorted_pw _ hx) hp
theorem names_sorted {N : NetD} (h : N.Ok) : sortedS N.names = true := by
  obtain ⟨n, h1, h2, e⟩ := h.nm
  rw [e]
  have : n = 1 ∨ n = 2 ∨ n = 3 ∨ n = 4 := by omega
  rcases this with rfl | rfl | rfl | rfl <;> decide +kernel
theorem ij_sorted : sortedS ["i", "j"] = true := by decide +kernel
theorem op_sorted : sortedS ["o", "p"] = true := by decide +kernel
theorem names_ltr {N : NetD} (h : N.Ok) : ∀ k ∈ N.names, PyData.strOk k = true := by
  intro k hk
  have : ∀ k ∈ kl, PyData.strOk k = true := by decide +kernel
  exact this k (h.sub hk)
section
variable {K : PySem.W.Frag} {H : Hp} {Q : VK} {a : Addr} {ks : List Str} {f : Str → V}
theorem w_sortD (hd : H a = some (.dK (mapK ks f))) (hl : ks.length < 64) (hs : sortedS ks = true) (h : ∀ p H', H p = none → Same H H' → H' p = some (.lst (ks.map V.str)) → Q (.ref p) H') : rSortD [.ref a] H Q :=
  ⟨a, mapK ks f, ks, rfl, .inl hd, by simp [mapK, Function.comp_def], hl, fun ys p hp hy hn => by rw [sorted_one hp hy hs]; exact h p _ hn (Same.alloc hn) upd_same⟩
theorem w_sortS {xs : List Str} (hl : SqL K H a (ks.map V.str)) (hz : ks.length < 64) (hp : ks.Perm xs) (hs : sortedS xs = true) (h : ∀ p H', H p = none → Same H H' → H' p = some (.lst (xs.map V.str)) → Q (.ref p) H') : rSortedS K [.ref a] H Q :=
  ⟨a, ks, rfl, hl, hz, fun ys p hq hy hn => by rw [sorted_one (hq.trans hp) hy hs]; exact h p _ hn (Same.alloc hn) upd_same⟩
theorem w_listD (hd : H a = some (.dK (mapK ks f))) (h : ∀ p H', H p = none → Same H H' → H' p = some (.lst (ks.map V.str)) → Q (.ref p) H') : rListD [.ref a] H Q :=
  ⟨a, mapK ks f, rfl, .inl hd, fun p hp => by rw [show ((mapK ks f).map fun kv => kV kv.1) = ks.map V.str by simp [mapK, Function.comp_def, kV]]; exact h p _ hp (Same.alloc hp) upd_same⟩
theorem w_listDf {o : Obj} (hd : H a = some (.frz o (.dK (mapK ks f)))) (h : ∀ p H', H p = none → Same H H' → H' p = some (.lst (ks.map V.str)) → Q (.ref p) H') : rListD [.ref a] H Q :=
  ⟨a, mapK ks f, rfl, .inr ⟨o, hd⟩, fun p hp => by rw [show ((mapK ks f).map fun kv => kV kv.1) = ks.map V.str by simp [mapK, Function.comp_def, kV]]; exact h p _ hp (Same.alloc hp) upd_same⟩
theorem w_tupleL {xs : List V} (hl : SqL K H a xs) (h : ∀ p H', H p = none → Same H H' → H' p = some (.tup xs) → Q (.ref p) H') : rTupleOf K [.ref a] H Q :=
  ⟨a, xs, rfl, .inl ⟨hl, fun p hp => h p _ hp (Same.alloc hp) upd_same⟩⟩
theorem w_listL {xs : List V} (hl : SqL K H a xs) (h : ∀ p H', H p = none → Same H H' → H' p = some (.lst xs) → Q (.ref p) H') : rListOf K [.ref a] H Q :=
  ⟨a, xs, rfl, .inl hl, fun p hp => h p _ hp (Same.alloc hp) upd_same⟩
theorem w_listT {xs : List V} (hl : SqT K H a xs) (h : ∀ p H', H p = none → Same H H' → H' p = some (.lst xs) → Q (.ref p) H') : rListOf K [.ref a] H Q :=
  ⟨a, xs, rfl, .inr hl, fun p hp => h p _ hp (Same.alloc hp) upd_same⟩
theorem w_dictD {kvs : List (Key × V)} (hd : H a = some (.dK kvs)) (h : ∀ p H', H p = none → Same H H' → H' p = some (.dK kvs) → Q (.ref p) H') : rDictD [.ref a] H Q :=
  ⟨a, kvs, rfl, .inl hd, fun p hp => h p _ hp (Same.alloc hp) upd_same⟩
end
abbrev netF (dk di to ln : Addr) : List (Str × V) := [("knots", .ref dk), ("inlets", .ref di), ("outlets", .ref to), ("names", .ref ln)]
def inl (N : NetD) : Str → Str := fun k => if k = "i" then "a" else N.jk
structure NetOb (K : PySem.W.Frag) (H : Hp) (p : Addr) (N : NetD) (dk di to ln dx : Addr) : Prop where
  ob : H p = some (.ins (He.ga K "Net") dx (netF dk di to ln))
  kn : KnotsAt K H dk N
  il : H di = some (.dK (mapK ["i", "j"] fun k => .str (inl N k)))
  ou : SqT K H to [.str "o", .str "p"]
  nm : H ln = some (.lst (N.names.map V.str))
def NetAt (K : PySem.W.Frag) (H : Hp) (p : Addr) (N : NetD) : Prop := ∃ dk di to ln dx, NetOb K H p N dk di to ln dx
section
variable {K : PySem.W.Frag} {H H' : Hp} {p dk di to ln dx : Addr} {N : NetD} {Q : VK} {mg : Str → Option Value}
theorem NetOb.same (e : Same H H') (h : NetOb K H p N dk di to ln dx) : NetOb K H' p N dk di to ln dx := ⟨e _ _ h.ob, h.kn.same e, e _ _ h.il, Same.sqt e h.ou, e _ _ h.nm⟩
theorem NetAt.same (e : Same H H') (h : NetAt K H p N) : NetAt K H' p N := by
  obtain ⟨a, b, c, d, f, h⟩ := h
  exact ⟨a, b, c, d, f, h.same e⟩
theorem lk_knots : (netF dk di to ln).lookup ("knots" : Str) = some (.ref dk) := by
  have : (("knots" : Str) == "knots") = true := by decide +kernel
  simp [List.lookup, this]
theorem lk_inlets : (netF dk di to ln).lookup ("inlets" : Str) = some (.ref di) := by
  have h1 : (("inlets" : Str) == "knots") = false := by decide +kernel
  have h2 : (("inlets" : Str) == "inlets") = true := by decide +kernel
  simp [List.lookup, h1, h2]
theorem lk_outlets : (netF dk di to ln).lookup ("outlets" : Str) = some (.ref to) := by
  have h1 : (("outlets" : Str) == "knots") = false := by decide +kernel
  have h2 : (("outlets" : Str) == "inlets") = false := by decide +kernel
  have h3 : (("outlets" : Str) == "outlets") = true := by decide +kernel
  simp [List.lookup, h1, h2, h3]
theorem lk_names : (netF dk di to ln).lookup ("names" : Str) = some (.ref ln) := by
  have h1 : (("names" : Str) == "knots") = false := by decide +kernel
  have h2 : (("names" : Str) == "inlets") = false := by decide +kernel
  have h3 : (("names" : Str) == "outlets") = false := by decide +kernel
  have h4 : (("names" : Str) == "names") = true := by decide +kernel
  simp [List.lookup, h1, h2, h3, h4]
theorem lk_no {m : Str} (h1 : (m == ("knots" : Str)) = false) (h2 : (m == ("inlets" : Str)) = false) (h3 : (m == ("outlets" : Str)) = false) (h4 : (m == ("names" : Str)) = false) : (netF dk di to ln).lookup m = none := by
  simp [List.lookup, h1, h2, h3, h4]
theorem w_nknots (T : TX K mg) (h : NetOb K H p N dk di to ln dx) (q : Q (.ref dk) H) : RFld K "knots" (.ref p) H Q := w_rfld h.ob T.c_Net T.n_Net_knots lk_knots q
theorem w_ninlets (T : TX K mg) (h : NetOb K H p N dk di to ln dx) (q : Q (.ref di) H) : RFld K "inlets" (.ref p) H Q := w_rfld h.ob T.c_Net T.n_Net_inlets lk_inlets q
theorem w_noutlets (T : TX K mg) (h : NetOb K H p N dk di to ln dx) (q : Q (.ref to) H) : RFld K "outlets" (.ref p) H Q := w_rfld h.ob T.c_Net T.n_Net_outlets lk_outlets q
theorem w_nnames (T : TX K mg) (h : NetOb K H p N dk di to ln dx) (q : Q (.ref ln) H) : RFld K "names" (.ref p) H Q := w_rfld h.ob T.c_Net T.n_Net_names lk_names q
theorem w_nmeth {m : Str} {R : Prop} (h : NetOb K H p N dk di to ln dx) (r : R) (h1 : (m == ("knots" : Str)) = false := by decide +kernel) (h2 : (m == ("inlets" : Str)) = false := by decide +kernel) (h3 : (m == ("outlets" : Str)) = false := by decide +kernel)
    (h4 : (m == ("names" : Str)) = false := by decide +kernel) : RMeth (He.ga K "Net") m (.ref p) H R := w_rmeth h.ob (lk_no h1 h2 h3 h4) r
end
end K1
namespace K1
open PySem PySem.Spec L2
open PyProof.Rows hiding St
local macro_rules | `(tactic| walk_at "hp") => `(tactic| first | assumption | exact upd_same | (refine' Same.to ?wse ?wsh; (case wse => assumption); (case wsh => walk_at "hp")) | ((rw [upd_ne (by first | assumption | (apply Ne.symm; assumption))]); walk_at "hp"))
local macro_rules | `(tactic| walk_at "sq") => `(tactic| first | assumption | exact sqL (by walk_at "hp") | exact sqT (by walk_at "hp") | (refine' Same.seqTo ?wse ?wsh; (case wse => assumption); (case wsh => walk_at "sq")) | (refine' Same.sqtTo ?wse ?wsh; (case wse => assumption); (case wsh => walk_at "sq")))
local macro_rules | `(tactic| walk_at "w1") => `(tactic| first
  | with_reducible refine w_asg ?_
  | with_reducible refine w_c ?_
  | with_reducible refine w_gname ?_
  | with_reducible refine w_if ?_
  | with_reducible refine w_ifs ?_
  | with_reducible refine w_test ?_
  | with_reducible refine w_tB ?_
  | with_reducible refine w_bl ?_
  | with_reducible refine w_op ?_
  | with_reducible refine w_nil ?_
  | with_reducible refine w_cons ?_
  | with_reducible refine w_cb ?_
  | with_reducible refine w_I0 ?_
  | with_reducible refine w_lst ?_
  | with_reducible refine w_tup ?_
  | with_reducible refine w_sl ?_
  | with_reducible refine w_noPart ?_
  | with_reducible refine w_part ?_
  | with_reducible refine w_int ?_
  | with_reducible refine w_par ?_
  | with_reducible refine w_two ?_
  | with_reducible refine w_par3 ?_
  | with_reducible refine w_three ?_
  | with_reducible refine w_ret ?_
  | with_reducible refine w_drop ?_
  | with_reducible refine w_chain ?_
  | with_reducible refine w_and ?_
  | with_reducible refine w_or ?_
  | with_reducible refine w_not ?_
  | with_reducible refine w_notV ?_
  | with_reducible refine w_andV ?_
  | with_reducible refine w_orV ?_
  | with_reducible refine w_int1 ?_
  | with_reducible refine w_true ?_
  | with_reducible refine w_false ?_
  | with_reducible refine w_for ?_
  | with_reducible refine w_rng1 ?_
  | with_reducible refine w_rng2 ?_
  | with_reducible refine w_iList ?_
  | with_reducible refine w_iTup ?_
  | with_reducible refine w_dget ?_
  | with_reducible refine w_din ?_
  | with_reducible refine w_dnotin ?_
  | with_reducible refine w_dput ?_
  | with_reducible refine w_dget2 ?_
  | with_reducible refine w_fld ?_
  | with_reducible refine w_dnew ?_
  | with_reducible refine w_lc ?_
  | with_reducible refine w_dc ?_
  | with_reducible refine w_iStr ?_
  | with_reducible refine w_str ?_
  | with_reducible refine w_iEnum ?_
  | with_reducible refine w_iZip ?_
  | with_reducible refine w_yes ?_
  | with_reducible refine w_gtup ?_
  | with_reducible refine w_gcons ?_
  | with_reducible refine w_rcons ?_
  | with_reducible refine w_gnil ?_
  | with_reducible refine w_leS ?_
  | with_reducible refine w_isN ?_
  | with_reducible refine w_notN ?_
  | with_reducible refine w_call ?_
  | with_reducible refine w_meth ?_
  | with_reducible refine w_bm ?_
  | with_reducible refine w_bm0 ?_
  | with_reducible refine isi_int ?_
  | with_reducible refine isi_bl_int ?_
  | with_reducible refine isi_int_bl ?_
  | with_reducible refine isi_bl ?_
  | with_reducible refine isi_str ?_
  | with_reducible refine isi_non_dict ?_
  | with_reducible refine isi_int_dict ?_
  | with_reducible refine w_ntrue ?_
  | with_reducible refine w_nfalse ?_
  | with_reducible refine w_wt ?_
  | with_reducible refine w_starD ?_
  | with_reducible refine w_starT ?_
  | with_reducible refine w_listVals ?_
  | with_reducible refine w_iEnumT ?_
  | with_reducible refine w_iEnumS ?_
  | with_reducible refine w_enumS ?_
  | with_reducible refine w_frz ?_
  | with_reducible refine w_iItems ?_
  | with_reducible refine w_iKeys ?_
  | with_reducible refine w_iVals ?_
  | with_reducible refine w_strS ?_
  | with_reducible refine w_daug ?_
  | with_reducible refine w_rAdd ?_
  | with_reducible refine w_sfld ?_
  | ((with_reducible refine' w_var ?wsd ?_); (case wsd => first | rfl | assumption))
  | ((with_reducible refine' w_eq ?wsd ?_); (case wsd => rfl))
  | ((with_reducible refine' w_ne ?wsd ?_); (case wsd => rfl))
  | ((with_reducible refine' w_lenL ?wsd ?_); (case wsd => walk_at "sq"))
  | ((with_reducible refine' w_lenT ?wsd ?_); (case wsd => walk_at "sq"))
  | ((with_reducible refine' w_itL ?wsd ?_); (case wsd => walk_at "sq"))
  | ((with_reducible refine' w_itT ?wsd ?_); (case wsd => walk_at "sq"))
  | ((with_reducible refine' w_rng1v ?wsd ?_); (case wsd => omega))
  | ((with_reducible refine' w_rng2v ?wsd ?_); (case wsd => omega))
  | ((with_reducible refine' w_I ?wsd ?_); (case wsd => walk_at "side"))
  | ((with_reducible refine' w_dtrue ?wsd ?_); (case wsd => first | assumption | omega | rfl | decide))
  | ((with_reducible refine' w_dfalse ?wsd ?_); (case wsd => first | assumption | omega | decide))
  | ((with_reducible refine' w_ndtrue ?wsd ?_); (case wsd => first | assumption | omega | rfl | decide))
  | ((with_reducible refine' w_ndfalse ?wsd ?_); (case wsd => first | assumption | omega | decide))
  | ((with_reducible refine' w_stD ?wsd ?_); (case wsd => walk_at "hp"))
  | ((with_reducible refine' w_stT ?wsd ?_); (case wsd => walk_at "sq"))
  | ((with_reducible refine' w_stL ?wsd ?_); (case wsd => walk_at "sq"))
  | ((with_reducible refine' w_isD ?wsd ?_); (case wsd => walk_at "hp"))
  | ((with_reducible refine' isi_tup ?wsd ?_); (case wsd => walk_at "sq"))
  | ((with_reducible refine' isi_dict ?wsd ?_); (case wsd => walk_at "hp"))
  | ((with_reducible refine' w_lenDv ?wsd ?_); (case wsd => walk_at "hp"))
  | ((with_reducible refine' w_enum ?wsd ?_); (case wsd => walk_at "sq"))
  | ((with_reducible refine' w_enumT ?wsd ?_); (case wsd => walk_at "sq"))
  | ((with_reducible refine' w_tyL ?wsd ?_); (case wsd => walk_at "sq")))
local macro_rules | `(tactic| walk_at "side") => `(tactic| first | omega | decide | (constructor <;> omega) | (constructor <;> decide) | (simp only [List.length_map, List.length_append, List.length_cons, List.length_nil, CDivN, CMul, CPow]; first | omega | decide | (constructor <;> omega)))
local macro_rules | `(tactic| walk_at "w") => `(tactic| repeat (walk_at "w1"))
def spDraw (K : PySem.W.Frag) : Sp := fun vs H Q _ => ∃ (a : Addr) (ns : List Int) (p m : Int), vs = [.ref a, .int p, .int m] ∧ SqL K H a (ns.map V.int) ∧ ns.length ≤ 63 ∧ 0 ≤ p ∧ p ≤ 100000 ∧ 0 < m ∧ m ≤ 100000 ∧
  ∀ r H', 0 ≤ r → r < m → Same H H' → Q (.int r) H'
abbrev N_law_draw : List Str := ["_law_script", "_law_at", "_law_many", "_law_row", "_law_cell", "_law_turn", "_law_step", "_law_mixed"]
theorem sc_law_draw : FnScope N_law_draw ["_law_script", "_law_at", "_law_many"] (defScope s_law_draw) := ⟨rfl, rfl, rfl, by decide +kernel, rfl, by decide +kernel, by decide +kernel⟩
section
variable {P : Program} {w : World} {K : PySem.W.Frag} {mg : Str → Option Value} {base : Heap}
theorem ok_law_draw (T : TX K mg) {f : Addr} {fd : FuncData} (F : FunD K "_law_draw" "_law_draw" (defArgs s_law_draw) (defBody s_law_draw) (defScope s_law_draw) [] [] f fd) :
    FnOk P w K mg base CX0 1 f fd ["_law_script", "_law_at", "_law_many"] (spDraw K) := by
  refine F.ok sc_law_draw (fun vs H Q E h => ?_) (fun cdv A outer s H vs Q E hr h => ?_)
  · obtain ⟨a, ns, p, m, rfl, _⟩ := h
    rfl
  obtain ⟨a, ns, p, m, rfl, hS, hlen, hp, hp2, hm, hm2, k⟩ := h
  have hu := hu_of hr
  refine ssx_nox ?_
  refine ssx_cons (ps_set (i := 3) sc_law_draw.nd rfl (Or.inl rfl) (pe_ifExp (pt_cmpR (op_neD hr.units) (pv 0) (pe_lst pa_nil) (nomark _)) (pe_slice sl_list (pv 0) po_none (po_some pe_int)) (pe_lst (pa_cons pe_int pa_nil)))) ?_
  walk_at "w"
  refine w_newL (by simp) fun e H1 he s1 h1 => ?_
  refine w_neNilL (s1.seq hS) (sqL h1) (DL.ints ns) ?_
  walk_at "w"
  have key : ∀ (q : Addr) (rs : List Int) (H2 : Hp), Same H H2 → SqL K H2 q (rs.map V.int) → 0 < rs.length → rs.length ≤ 63 → SSX (cxOf CX0 P w K mg base N_law_draw "_law_draw" (defScope s_law_draw) f cdv A outer s H E).nox ((defBody s_law_draw).drop 1) { nx := fun _ H' => Q .non H', rt := Q } ((start N_law_draw [V.ref a, .int p, .int m]).set 3 (some (.ref q))) H2 := by
    intro q rs H2 s2 hq hpos hle
    refine ssx_cons (ps_par (i := 4) (j := 5) rfl sc_law_draw.nd rfl rfl (by decide) rfl rfl (pa_cons (pe_ix ix_list (pv 3) (pe_op op_modN (pv 1) (pe_callB k_len rfl T.f_len (by decide +kernel) (pa_cons (pv 3) pa_nil))) (fun _ _ => rfl)) (pa_cons (pe_op op_fdivN (pv 1) (pe_callB k_len rfl T.f_len (by decide +kernel) (pa_cons (pv 3) pa_nil))) pa_nil)) rfl) ?_
    walk_at "w"
    have e1 : p.fmod ((rs.map V.int).length : Int) = ((p.toNat % rs.length : Nat) : Int) := by
      obtain ⟨z, rfl⟩ := Int.eq_ofNat_of_zero_le hp
      rw [List.length_map, fmod_nat, Int.toNat_natCast]
    have lt : p.toNat % rs.length < rs.length := Nat.mod_lt _ hpos
    refine w_ixL (v := .int rs[p.toNat % rs.length]) hq (by rw [e1]; exact atI_nat (by simp [lt])) ?_
    generalize rs[p.toNat % rs.length] = c
    walk_at "w"
    generalize hz : p.fdiv ((rs.map V.int).length : Int) = z
    have hz0 : 0 ≤ z ∧ z ≤ 100000 := by
      rw [← hz, List.length_map, Int.fdiv_eq_ediv_of_nonneg _ (by omega)]
      exact ⟨Int.ediv_nonneg hp (by omega), Int.le_trans (Int.ediv_le_self _ hp) hp2⟩
    refine ssx_cons (ps_if (pt_cmpR op_ge (pv 4) (pe_op op_pow pe_int pe_int) (nomark _)) SSX.ps SSX.ps) ?_
    walk_at "w"
    refine w_both (fun _ => ?_) fun _ => ?_
    · refine ssx_cons (ps_set (i := 4) sc_law_draw.nd rfl (Or.inl rfl) (pe_op op_modN (pe_callTy k_int rfl T.f_int (by decide +kernel) (pa_cons (pv 4) pa_nil)) (pe_op op_pow pe_int pe_int))) ?_
      walk_at "w"
      refine ssx_cons (ps_for PassesOwn.never rfl (pi_range1 rfl T.f_range (pa_cons (pe_op op_modN (pv 5) pe_int) pa_nil)) (pg_name (i := 6) sc_law_draw.nd rfl (Or.inl rfl)) SSX.ps) ?_
      walk_at "w"
      have hm40 : 0 ≤ z.fmod 40 ∧ z.fmod 40 < 40 := fmod_bd (by omega)
      refine w_rng1v (by omega) ?_
      refine for_range (fun i σ H3 => Same H H3 ∧ ∃ c6 o, σ = [some (.ref a), some (.int p), some (.int m), some (.ref q), some (.int c6), some (.int z), o, none]) ⟨s2, _, _, rfl⟩ (fun i σ H3 hi p1 => ?_) fun σ H3 p1 => ?_
      · obtain ⟨s3, c6, o, rfl⟩ := p1
        walk_at "w"
        refine ssx_cons (ps_set (i := 4) sc_law_draw.nd rfl (Or.inl rfl) (pe_op op_fdivN (pv 4) pe_int)) ?_
        walk_at "w"
        exact ssx_nil ⟨s3, _, _, rfl⟩
      · obtain ⟨s3, c6, o, rfl⟩ := p1
        refine ssx_cons (ps_ret (pe_op op_modN (pe_op op_modN (pe_callTy k_int rfl T.f_int (by decide +kernel) (pa_cons (pv 4) pa_nil)) pe_int) (pv 2))) ?_
        walk_at "w"
        exact k _ _ (fmod_bd hm).1 (fmod_bd hm).2 s3
    · refine ssx_nil ?_
      refine ssx_cons (ps_set (i := 7) sc_law_draw.nd rfl (Or.inl rfl) (pe_op op_add (pe_op op_mul (pe_op op_add (pe_op op_add (pe_op op_modN (pe_callTy k_int rfl T.f_int (by decide +kernel) (pa_cons (pe_op op_add (pv 4) (pe_op op_mul pe_int (pv 5))) pa_nil)) pe_int) (pe_op op_mul pe_int (pv 1))) pe_int) pe_int) (pe_op op_modN (pe_callTy k_int rfl T.f_int (by decide +kernel) (pa_cons (pe_op op_fdivN (pv 4) pe_int) pa_nil)) pe_int))) ?_
      walk_at "w"
      have b1 : 0 ≤ (c + 31 * z).fmod 1000003 ∧ (c + 31 * z).fmod 1000003 < 1000003 := fmod_bd (by omega)
      walk_at "w"
      refine ssx_cons (ps_ret (pe_op op_modN (pe_callTy k_int rfl T.f_int (by decide +kernel) (pa_cons (pe_op op_modN (pe_op op_mul (pe_op op_modN (pv 7) pe_int) pe_int) pe_int) pa_nil)) (pv 2))) ?_
      walk_at "w"
      generalize hx : Int.fmod _ 2147483647 = x
      have b2 : 0 ≤ x ∧ x < 2147483647 := by rw [← hx]; exact fmod_bd (by omega)
      walk_at "w"
      exact k _ _ (fmod_bd hm).1 (fmod_bd hm).2 s2
  refine w_both (fun hne => ?_) fun _ => ?_
  · walk_at "w"
    refine w_slL (s1.seq hS) fun q H2 hq s2 h2 => ?_
    walk_at "w"
    rw [show cutV (ns.map V.int) none (some 60) = (ns.take 60).map V.int from (cut_take _ 60).trans List.map_take.symm] at h2
    refine key q (ns.take 60) H2 (s1.trans s2) (sqL h2) ?_ ?_
    · rw [List.length_take]; cases ns <;> simp_all <;> omega
    · rw [List.length_take]; omega
  · walk_at "w"
    refine w_newL (by simp) fun q H2 hq s2 h2 => ?_
    walk_at "w"
    exact key q [7] H2 (s1.trans s2) (sqL h2) (by decide) (by decide)
end
end K1
namespace K1
open PySem PySem.Spec L2
open PyProof.Rows hiding St
local macro_rules | `(tactic| walk_at "hp") => `(tactic| first | assumption | exact upd_same | (refine' Same.to ?wse ?wsh; (case wse => assumption); (case wsh => walk_at "hp")) | ((rw [upd_ne (by first | assumption | (apply Ne.symm; assumption))]); walk_at "hp"))
local macro_rules | `(tactic| walk_at "sq") => `(tactic| first | assumption | exact sqL (by walk_at "hp") | exact sqT (by walk_at "hp") | (refine' Same.seqTo ?wse ?wsh; (case wse => assumption); (case wsh => walk_at "sq")) | (refine' Same.sqtTo ?wse ?wsh; (case wse => assumption); (case wsh => walk_at "sq")))
local macro_rules | `(tactic| walk_at "w1") => `(tactic| first
  | with_reducible refine w_asg ?_
  | with_reducible refine w_c ?_
  | with_reducible refine w_gname ?_
  | with_reducible refine w_if ?_
  | with_reducible refine w_ifs ?_
  | with_reducible refine w_test ?_
  | with_reducible refine w_tB ?_
  | with_reducible refine w_bl ?_
  | with_reducible refine w_op ?_
  | with_reducible refine w_nil ?_
  | with_reducible refine w_cons ?_
  | with_reducible refine w_cb ?_
  | with_reducible refine w_I0 ?_
  | with_reducible refine w_lst ?_
  | with_reducible refine w_tup ?_
  | with_reducible refine w_sl ?_
  | with_reducible refine w_noPart ?_
  | with_reducible refine w_part ?_
  | with_reducible refine w_int ?_
  | with_reducible refine w_par ?_
  | with_reducible refine w_two ?_
  | with_reducible refine w_par3 ?_
  | with_reducible refine w_three ?_
  | with_reducible refine w_ret ?_
  | with_reducible refine w_drop ?_
  | with_reducible refine w_chain ?_
  | with_reducible refine w_and ?_
  | with_reducible refine w_or ?_
  | with_reducible refine w_not ?_
  | with_reducible refine w_notV ?_
  | with_reducible refine w_andV ?_
  | with_reducible refine w_orV ?_
  | with_reducible refine w_int1 ?_
  | with_reducible refine w_true ?_
  | with_reducible refine w_false ?_
  | with_reducible refine w_for ?_
  | with_reducible refine w_rng1 ?_
  | with_reducible refine w_rng2 ?_
  | with_reducible refine w_iList ?_
  | with_reducible refine w_iTup ?_
  | with_reducible refine w_dget ?_
  | with_reducible refine w_din ?_
  | with_reducible refine w_dnotin ?_
  | with_reducible refine w_dput ?_
  | with_reducible refine w_dget2 ?_
  | with_reducible refine w_fld ?_
  | with_reducible refine w_dnew ?_
  | with_reducible refine w_lc ?_
  | with_reducible refine w_dc ?_
  | with_reducible refine w_iStr ?_
  | with_reducible refine w_str ?_
  | with_reducible refine w_iEnum ?_
  | with_reducible refine w_iZip ?_
  | with_reducible refine w_yes ?_
  | with_reducible refine w_gtup ?_
  | with_reducible refine w_gcons ?_
  | with_reducible refine w_rcons ?_
  | with_reducible refine w_gnil ?_
  | with_reducible refine w_leS ?_
  | with_reducible refine w_isN ?_
  | with_reducible refine w_notN ?_
  | with_reducible refine w_call ?_
  | with_reducible refine w_meth ?_
  | with_reducible refine w_bm ?_
  | with_reducible refine w_bm0 ?_
  | with_reducible refine isi_int ?_
  | with_reducible refine isi_bl_int ?_
  | with_reducible refine isi_int_bl ?_
  | with_reducible refine isi_bl ?_
  | with_reducible refine isi_str ?_
  | with_reducible refine isi_non_dict ?_
  | with_reducible refine isi_int_dict ?_
  | with_reducible refine w_ntrue ?_
  | with_reducible refine w_nfalse ?_
  | with_reducible refine w_wt ?_
  | with_reducible refine w_starD ?_
  | with_reducible refine w_starT ?_
  | with_reducible refine w_listVals ?_
  | with_reducible refine w_iEnumT ?_
  | with_reducible refine w_iEnumS ?_
  | with_reducible refine w_enumS ?_
  | with_reducible refine w_frz ?_
  | with_reducible refine w_iItems ?_
  | with_reducible refine w_iKeys ?_
  | with_reducible refine w_iVals ?_
  | with_reducible refine w_strS ?_
  | with_reducible refine w_daug ?_
  | with_reducible refine w_rAdd ?_
  | with_reducible refine w_sfld ?_
  | ((with_reducible refine' w_var ?wsd ?_); (case wsd => first | rfl | assumption))
  | ((with_reducible refine' w_eq ?wsd ?_); (case wsd => rfl))
  | ((with_reducible refine' w_ne ?wsd ?_); (case wsd => rfl))
  | ((with_reducible refine' w_lenL ?wsd ?_); (case wsd => walk_at "sq"))
  | ((with_reducible refine' w_lenT ?wsd ?_); (case wsd => walk_at "sq"))
  | ((with_reducible refine' w_itL ?wsd ?_); (case wsd => walk_at "sq"))
  | ((with_reducible refine' w_itT ?wsd ?_); (case wsd => walk_at "sq"))
  | ((with_reducible refine' w_rng1v ?wsd ?_); (case wsd => omega))
  | ((with_reducible refine' w_rng2v ?wsd ?_); (case wsd => omega))
  | ((with_reducible refine' w_I ?wsd ?_); (case wsd => walk_at "side"))
  | ((with_reducible refine' w_dtrue ?wsd ?_); (case wsd => first | assumption | omega | rfl | decide))
  | ((with_reducible refine' w_dfalse ?wsd ?_); (case wsd => first | assumption | omega | decide))
  | ((with_reducible refine' w_ndtrue ?wsd ?_); (case wsd => first | assumption | omega | rfl | decide))
  | ((with_reducible refine' w_ndfalse ?wsd ?_); (case wsd => first | assumption | omega | decide))
  | ((with_reducible refine' w_stD ?wsd ?_); (case wsd => walk_at "hp"))
  | ((with_reducible refine' w_stT ?wsd ?_); (case wsd => walk_at "sq"))
  | ((with_reducible refine' w_stL ?wsd ?_); (case wsd => walk_at "sq"))
  | ((with_reducible refine' w_isD ?wsd ?_); (case wsd => walk_at "hp"))
  | ((with_reducible refine' isi_tup ?wsd ?_); (case wsd => walk_at "sq"))
  | ((with_reducible refine' isi_dict ?wsd ?_); (case wsd => walk_at "hp"))
  | ((with_reducible refine' w_lenDv ?wsd ?_); (case wsd => walk_at "hp"))
  | ((with_reducible refine' w_enum ?wsd ?_); (case wsd => walk_at "sq"))
  | ((with_reducible refine' w_enumT ?wsd ?_); (case wsd => walk_at "sq"))
  | ((with_reducible refine' w_tyL ?wsd ?_); (case wsd => walk_at "sq")))
local macro_rules | `(tactic| walk_at "side") => `(tactic| first | omega | decide | (constructor <;> omega) | (constructor <;> decide) | (simp only [List.length_map, List.length_append, List.length_cons, List.length_nil, CDivN, CMul, CPow]; first | omega | decide | (constructor <;> omega)))
local macro_rules | `(tactic| walk_at "w") => `(tactic| repeat (walk_at "w1"))
def spCount (K : PySem.W.Frag) : Sp := fun vs H Q _ => ∃ (d t : Addr) (m : Int) (drop ks : List Str) (f : Str → Int), vs = [.ref d, .ref t, .int m] ∧ H d = some (DI ks f) ∧ SqT K H t (drop.map V.str) ∧ Zr ks f ∧ ks.length + drop.length ≤ 900 ∧
  ∀ ks' f', Zr ks' f' → (∀ x, f' x = f x + m * (drop.count x : Int)) → (∀ x, x ∈ ks' ↔ x ∈ ks ∨ x ∈ drop) → (ks.Nodup → ks'.Nodup) → ks'.length ≤ ks.length + drop.length → Q .non (upd H d (DI ks' f'))
abbrev N_count : List Str := ["found", "drop", "many", "target"]
theorem sc_count : FnScope N_count ["found", "drop", "many"] (defScope s_count) := ⟨rfl, rfl, rfl, by decide +kernel, rfl, by decide +kernel, by decide +kernel⟩
section
variable {P : Program} {w : World} {K : PySem.W.Frag} {mg : Str → Option Value} {base : Heap}
theorem ok_count (T : TX K mg) : Fok P w K mg base CX0 1 (He.ga K "count") ["found", "drop", "many"] [] (spCount K) := by
  obtain ⟨fd, F⟩ := T.fn_count
  refine ⟨⟨fd, [], ?_, F.bindsN fun _ _ _ _ _ _ us hl => match us, hl with | [_, _, _], _ => rfl, .nil⟩, F.kp⟩
  refine F.ok sc_count (fun vs H Q E h => ?_) (fun cdv A outer s H vs Q E hr h => ?_)
  · obtain ⟨_, _, _, _, _, _, rfl, _⟩ := h
    rfl
  obtain ⟨d, t, m, drop, ks, f, rfl, hd, ht, hz, hl, k⟩ := h
  have hu := hu_of hr
  refine ssx_nox ?_
  refine ssx_cons (ps_for PassesOwn.never rfl (pi_tup (pv 1)) (pg_name (i := 3) sc_count.nd rfl (Or.inl rfl)) SSX.ps) ?_
  walk_at "w"
  refine for_tup (xs := drop.map V.str) (fun i σ H1 => ∃ ks1 f1 o, σ = [some (.ref d), some (.ref t), some (.int m), o] ∧ H1 = upd H d (DI ks1 f1) ∧ Zr ks1 f1 ∧ (∀ x, f1 x = f x + m * ((drop.take i).count x : Int)) ∧
      (∀ x, x ∈ ks1 ↔ x ∈ ks ∨ x ∈ drop.take i) ∧ (ks.Nodup → ks1.Nodup) ∧ ks1.length ≤ ks.length + i) ?_ ?_ ?_ ?_
  · refine ⟨ks, f, none, rfl, ?_, hz, by simp, by simp, id, Nat.le_refl _⟩
    funext b
    by_cases e : b = d
    · subst e; rw [upd_same, hd]
    · rw [upd_ne e]
  · rintro i σ H1 _ ⟨ks1, f1, o, rfl, rfl, _⟩
    exact sqT_upd ht hd
  · rintro i x σ H1 hx ⟨ks1, f1, o, rfl, rfl, hz1, hf1, hk1, hn1, hl1⟩
    obtain ⟨hi, e⟩ := List.getElem?_eq_some_iff.mp hx
    rw [List.getElem_map] at e
    have hi' : i < drop.length := by simpa using hi
    subst e
    generalize hy : drop[i] = y
    walk_at "w"
    refine ssx_cons (ps_dput hu (pv 0) (pv 3) (pe_op op_add (pe_dget2 hu (pv 0) (pv 3) pe_int ⟨rfl, rfl, rfl, rfl⟩) (pv 2)) rfl) ?_
    walk_at "w"
    refine w_getOI upd_same hz1 ?_
    walk_at "w"
    refine w_putI upd_same (by omega) ?_
    refine ssx_nil ⟨ins ks1 y, up f1 y (f1 y + m), _, rfl, upd_upd, hz1.put _ _, ?_, ?_, fun h => ins_nodup (hn1 h), by have := @ins_len ks1 y; omega⟩
    · intro x
      rw [List.take_succ, List.count_append, List.getElem?_eq_getElem hi', hy]
      by_cases e : x = y
      · subst e
        rw [show up f1 x (f1 x + m) x = f1 x + m from NetD.up_same, hf1]
        simp; rw [Int.mul_add]; omega
      · rw [show up f1 y (f1 y + m) x = f1 x from NetD.up_ne e, hf1]
        simp [List.count_singleton, e, Ne.symm e]
    · intro x
      rw [ins_mem, hk1, List.take_succ, List.getElem?_eq_getElem hi', hy]
      simp [or_assoc]
  · rintro σ H1 ⟨ks1, f1, o, rfl, rfl, hz1, hf1, hk1, hn1, hl1⟩
    rw [List.length_map, List.take_length] at *
    exact ssx_nil (k ks1 f1 hz1 hf1 hk1 hn1 hl1)
end
end K1
namespace K1
open PySem PySem.Spec L2
open PyProof.Rows hiding St
local macro_rules | `(tactic| walk_at "hp") => `(tactic| first | assumption | exact upd_same | (refine' Same.to ?wse ?wsh; (case wse => assumption); (case wsh => walk_at "hp")) | ((rw [upd_ne (by first | assumption | (apply Ne.symm; assumption))]); walk_at "hp"))
local macro_rules | `(tactic| walk_at "sq") => `(tactic| first | assumption | exact sqL (by walk_at "hp") | exact sqT (by walk_at "hp") | (refine' Same.seqTo ?wse ?wsh; (case wse => assumption); (case wsh => walk_at "sq")) | (refine' Same.sqtTo ?wse ?wsh; (case wse => assumption); (case wsh => walk_at "sq")))
local macro_rules | `(tactic| walk_at "w1") => `(tactic| first
  | with_reducible refine w_asg ?_
  | with_reducible refine w_c ?_
  | with_reducible refine w_gname ?_
  | with_reducible refine w_if ?_
  | with_reducible refine w_ifs ?_
  | with_reducible refine w_test ?_
  | with_reducible refine w_tB ?_
  | with_reducible refine w_bl ?_
  | with_reducible refine w_op ?_
  | with_reducible refine w_nil ?_
  | with_reducible refine w_cons ?_
  | with_reducible refine w_cb ?_
  | with_reducible refine w_I0 ?_
  | with_reducible refine w_lst ?_
  | with_reducible refine w_tup ?_
  | with_reducible refine w_sl ?_
  | with_reducible refine w_noPart ?_
  | with_reducible refine w_part ?_
  | with_reducible refine w_int ?_
  | with_reducible refine w_par ?_
  | with_reducible refine w_two ?_
  | with_reducible refine w_par3 ?_
  | with_reducible refine w_three ?_
  | with_reducible refine w_ret ?_
  | with_reducible refine w_drop ?_
  | with_reducible refine w_chain ?_
  | with_reducible refine w_and ?_
  | with_reducible refine w_or ?_
  | with_reducible refine w_not ?_
  | with_reducible refine w_notV ?_
  | with_reducible refine w_andV ?_
  | with_reducible refine w_orV ?_
  | with_reducible refine w_int1 ?_
  | with_reducible refine w_true ?_
  | with_reducible refine w_false ?_
  | with_reducible refine w_for ?_
  | with_reducible refine w_rng1 ?_
  | with_reducible refine w_rng2 ?_
  | with_reducible refine w_iList ?_
  | with_reducible refine w_iTup ?_
  | with_reducible refine w_dget ?_
  | with_reducible refine w_din ?_
  | with_reducible refine w_dnotin ?_
  | with_reducible refine w_dput ?_
  | with_reducible refine w_dget2 ?_
  | with_reducible refine w_fld ?_
  | with_reducible refine w_dnew ?_
  | with_reducible refine w_lc ?_
  | with_reducible refine w_dc ?_
  | with_reducible refine w_iStr ?_
  | with_reducible refine w_str ?_
  | with_reducible refine w_iEnum ?_
  | with_reducible refine w_iZip ?_
  | with_reducible refine w_yes ?_
  | with_reducible refine w_gtup ?_
  | with_reducible refine w_gcons ?_
  | with_reducible refine w_rcons ?_
  | with_reducible refine w_gnil ?_
  | with_reducible refine w_leS ?_
  | with_reducible refine w_isN ?_
  | with_reducible refine w_notN ?_
  | with_reducible refine w_call ?_
  | with_reducible refine w_meth ?_
  | with_reducible refine w_bm ?_
  | with_reducible refine w_bm0 ?_
  | with_reducible refine isi_int ?_
  | with_reducible refine isi_bl_int ?_
  | with_reducible refine isi_int_bl ?_
  | with_reducible refine isi_bl ?_
  | with_reducible refine isi_str ?_
  | with_reducible refine isi_non_dict ?_
  | with_reducible refine isi_int_dict ?_
  | with_reducible refine w_ntrue ?_
  | with_reducible refine w_nfalse ?_
  | with_reducible refine w_wt ?_
  | with_reducible refine w_starD ?_
  | with_reducible refine w_starT ?_
  | with_reducible refine w_listVals ?_
  | with_reducible refine w_iEnumT ?_
  | with_reducible refine w_iEnumS ?_
  | with_reducible refine w_enumS ?_
  | with_reducible refine w_frz ?_
  | with_reducible refine w_iItems ?_
  | with_reducible refine w_iKeys ?_
  | with_reducible refine w_iVals ?_
  | with_reducible refine w_strS ?_
  | with_reducible refine w_daug ?_
  | with_reducible refine w_rAdd ?_
  | with_reducible refine w_sfld ?_
  | ((with_reducible refine' w_var ?wsd ?_); (case wsd => first | rfl | assumption))
  | ((with_reducible refine' w_eq ?wsd ?_); (case wsd => rfl))
  | ((with_reducible refine' w_ne ?wsd ?_); (case wsd => rfl))
  | ((with_reducible refine' w_lenL ?wsd ?_); (case wsd => walk_at "sq"))
  | ((with_reducible refine' w_lenT ?wsd ?_); (case wsd => walk_at "sq"))
  | ((with_reducible refine' w_itL ?wsd ?_); (case wsd => walk_at "sq"))
  | ((with_reducible refine' w_itT ?wsd ?_); (case wsd => walk_at "sq"))
  | ((with_reducible refine' w_rng1v ?wsd ?_); (case wsd => omega))
  | ((with_reducible refine' w_rng2v ?wsd ?_); (case wsd => omega))
  | ((with_reducible refine' w_I ?wsd ?_); (case wsd => walk_at "side"))
  | ((with_reducible refine' w_dtrue ?wsd ?_); (case wsd => first | assumption | omega | rfl | decide))
  | ((with_reducible refine' w_dfalse ?wsd ?_); (case wsd => first | assumption | omega | decide))
  | ((with_reducible refine' w_ndtrue ?wsd ?_); (case wsd => first | assumption | omega | rfl | decide))
  | ((with_reducible refine' w_ndfalse ?wsd ?_); (case wsd => first | assumption | omega | decide))
  | ((with_reducible refine' w_stD ?wsd ?_); (case wsd => walk_at "hp"))
  | ((with_reducible refine' w_stT ?wsd ?_); (case wsd => walk_at "sq"))
  | ((with_reducible refine' w_stL ?wsd ?_); (case wsd => walk_at "sq"))
  | ((with_reducible refine' w_isD ?wsd ?_); (case wsd => walk_at "hp"))
  | ((with_reducible refine' isi_tup ?wsd ?_); (case wsd => walk_at "sq"))
  | ((with_reducible refine' isi_dict ?wsd ?_); (case wsd => walk_at "hp"))
  | ((with_reducible refine' w_lenDv ?wsd ?_); (case wsd => walk_at "hp"))
  | ((with_reducible refine' w_enum ?wsd ?_); (case wsd => walk_at "sq"))
  | ((with_reducible refine' w_enumT ?wsd ?_); (case wsd => walk_at "sq"))
  | ((with_reducible refine' w_tyL ?wsd ?_); (case wsd => walk_at "sq")))
local macro_rules | `(tactic| walk_at "side") => `(tactic| first | omega | decide | (constructor <;> omega) | (constructor <;> decide) | (simp only [List.length_map, List.length_append, List.length_cons, List.length_nil, CDivN, CMul, CPow]; first | omega | decide | (constructor <;> omega)))
local macro_rules | `(tactic| walk_at "w") => `(tactic| repeat (walk_at "w1"))
def Ltr (x : Str) : Prop := ∃ c, x = ⟨#[c]⟩ ∧ 97 ≤ c ∧ c ≤ 122
theorem le_za : (!decide ((⟨#[0x61]⟩ : Str).cps.toList < (⟨#[0x61]⟩ : Str).cps.toList)) = true := by decide
theorem ltr_ge {c : Nat} (h : 97 ≤ c) : (!decide ((⟨#[c]⟩ : Str).cps.toList < ("a" : Str).cps.toList)) = true := by
  have : ("a" : Str).cps.toList = [97] := by decide +kernel
  rw [this]
  simp only [Bool.not_eq_true', decide_eq_false_iff_not]
  intro z
  rw [List.cons_lt_cons_iff] at z
  rcases z with z | ⟨_, z⟩
  · omega
  · exact absurd z (by simp)
theorem ltr_le {c : Nat} (h : c ≤ 122) : (!decide (("z" : Str).cps.toList < (⟨#[c]⟩ : Str).cps.toList)) = true := by
  have : ("z" : Str).cps.toList = [122] := by decide +kernel
  rw [this]
  simp only [Bool.not_eq_true', decide_eq_false_iff_not]
  intro z
  rw [List.cons_lt_cons_iff] at z
  rcases z with z | ⟨_, z⟩
  · omega
  · exact absurd z (by simp)
def spIsNumber : Sp := fun vs H Q _ => ∃ x, vs = [x] ∧ ((∃ i, x = .int i) ∧ Q (.bl true) H ∨ (∃ b, x = .bl b) ∧ Q (.bl false) H)
def spIsName : Sp := fun vs H Q _ => ∃ x, vs = [.str x] ∧ Ltr x ∧ ∀ H', Same H H' → Q (.bl true) H'
abbrev N_is_number : List Str := ["thing"]
theorem sc_is_number : FnScope N_is_number ["thing"] (defScope s_is_number) := ⟨rfl, rfl, rfl, by decide +kernel, rfl, by decide +kernel, by decide +kernel⟩
abbrev N_is_name : List Str := ["thing", "sign"]
theorem sc_is_name : FnScope N_is_name ["thing"] (defScope s_is_name) := ⟨rfl, rfl, rfl, by decide +kernel, rfl, by decide +kernel, by decide +kernel⟩
section
variable {P : Program} {w : World} {K : PySem.W.Frag} {mg : Str → Option Value} {base : Heap}
theorem ok_is_number (T : TX K mg) : Fok P w K mg base CX0 1 (He.ga K "is_number") ["thing"] [] spIsNumber := by
  obtain ⟨fd, F⟩ := T.fn_is_number
  refine ⟨⟨fd, [], ?_, F.bindsN fun _ _ _ _ _ _ us hl => match us, hl with | [_], _ => rfl, .nil⟩, F.kp⟩
  refine F.ok sc_is_number (fun vs H Q E h => ?_) (fun cdv A outer s H vs Q E hr h => ?_)
  · obtain ⟨_, rfl, _⟩ := h
    rfl
  obtain ⟨x, rfl, k⟩ := h
  have hu := hu_of hr
  refine ssx_nox ?_
  refine ssx_cons (ps_ret (pe_and (pe_callB (q_isi K) rfl T.f_isinstance bb_isinstance (pa_cons (pv 0) (pa_cons (pe_bltn (v := .ty "int") rfl T.f_int bt_int rfl) pa_nil))) (pe_one (pe_not (pe_callB (q_isi K) rfl T.f_isinstance bb_isinstance (pa_cons (pv 0) (pa_cons (pe_bltn (v := .ty "bool") rfl T.f_bool bt_bool rfl) pa_nil))))))) ?_
  rcases k with ⟨⟨i, rfl⟩, k⟩ | ⟨⟨b, rfl⟩, k⟩
  · walk_at "w"
    exact k
  · walk_at "w"
    exact k
theorem ok_is_name (T : TX K mg) : Fok P w K mg base CX0 1 (He.ga K "is_name") ["thing"] [] spIsName := by
  obtain ⟨fd, F⟩ := T.fn_is_name
  refine ⟨⟨fd, [], ?_, F.bindsN fun _ _ _ _ _ _ us hl => match us, hl with | [_], _ => rfl, .nil⟩, F.kp⟩
  refine F.ok sc_is_name (fun vs H Q E h => ?_) (fun cdv A outer s H vs Q E hr h => ?_)
  · obtain ⟨_, rfl, _⟩ := h
    rfl
  obtain ⟨x, rfl, ⟨c, rfl, h1, h2⟩, k⟩ := h
  have hu := hu_of hr
  refine ssx_nox ?_
  refine ssx_cons (ps_if (PW.pt (pw_or (pt_not (pt_val (pe_callB (q_isi K) rfl T.f_isinstance bb_isinstance (pa_cons (pv 0) (pa_cons (pe_bltn (v := .ty "str") rfl T.f_str bt_str rfl) pa_nil))))) (pw_or (pt_not (pt_chain op_le op_le pe_int (pe_callB k_lenS rfl T.f_len bb_len (pa_cons (pv 0) pa_nil)) (pe_glob (v := .int 16) rfl T.i_MOST_SIGNS.choose_spec ⟨_, rfl⟩))) (pw_or1 (pt_not (pt_chain k_leS k_leS pe_str (pe_ix ix_str (pv 0) pe_int (fun _ _ => rfl)) pe_str)))))) SSX.ps SSX.ps) ?_
  walk_at "w"
  refine w_lenS (by show 1 ≤ 100000; decide) ?_
  walk_at "w"
  refine w_dtrue (by show (1 : Int) ≤ 1; decide) ?_
  walk_at "w"
  refine w_ndtrue (by show (1 : Int) ≤ 16; decide) ?_
  walk_at "w"
  refine w_ixS (c := c) (by show 1 ≤ 100000; decide) rfl ?_
  walk_at "w"
  rw [ltr_ge h1]
  walk_at "w"
  rw [ltr_le h2]
  walk_at "w"
  refine ssx_nil ?_
  refine ssx_cons (ps_ret (pe_callB (q_all K rfl) rfl T.f_all bb_all (pa_cons (pe_lc (own := [("sign", 1)]) rfl sc_is_name.nd (pi_str (pv 0)) (blkOk_by (N := N_is_name) (sc := defScope s_is_name) (by decide +kernel)) (fun _ _ _ _ _ => (pg_name (i := 1) sc_is_name.nd rfl (Or.inl rfl))) (fun _ _ _ _ _ => pts_nil) (fun _ _ _ _ _ => (pe_or (pe_chain k_leS k_leS pe_str (pv 1) pe_str) (pe_or (pe_chain k_leS k_leS pe_str (pv 1) pe_str) (pe_one (pe_cmpR op_eq (pv 1) pe_str (nomark _))))))) pa_nil))) ?_
  walk_at "w"
  refine rlcV walk_str (fun i acc => acc = List.replicate i (V.bl true)) (by show 1 ≤ 100000; decide) (fun _ _ => trivial) rfl ?_ ?_
  · rintro i acc x H1 _ hi _ s1 rfl ⟨rfl, c', hc, rfl⟩ KT KF hKT hKF
    have : c' = c := by
      have hi : i < 1 := hi
      have : i = 0 := by omega
      subst this
      exact (Option.some.inj hc).symm
    subst this
    walk_at "w"
    refine ⟨rfl, ?_⟩
    walk_at "w"
    rw [ltr_ge h1]
    walk_at "w"
    rw [ltr_le h2]
    walk_at "w"
    refine hKT _ _ (Same.refl _) ?_
    rw [List.replicate_succ']
  · rintro D acc H2 hD s2 h3 _ rfl
    refine w_all (bs := [true]) (sqL h3) ?_
    exact k _ s2
end
end K1
namespace K1
open PySem PySem.Spec L2
open PyProof.Rows hiding St
local macro_rules | `(tactic| walk_at "hp") => `(tactic| first | assumption | exact upd_same | (refine' Same.to ?wse ?wsh; (case wse => assumption); (case wsh => walk_at "hp")) | ((rw [upd_ne (by first | assumption | (apply Ne.symm; assumption))]); walk_at "hp"))
local macro_rules | `(tactic| walk_at "sq") => `(tactic| first | assumption | exact sqL (by walk_at "hp") | exact sqT (by walk_at "hp") | (refine' Same.seqTo ?wse ?wsh; (case wse => assumption); (case wsh => walk_at "sq")) | (refine' Same.sqtTo ?wse ?wsh; (case wse => assumption); (case wsh => walk_at "sq")))
local macro_rules | `(tactic| walk_at "w1") => `(tactic| first
  | with_reducible refine w_asg ?_
  | with_reducible refine w_c ?_
  | with_reducible refine w_gname ?_
  | with_reducible refine w_if ?_
  | with_reducible refine w_ifs ?_
  | with_reducible refine w_test ?_
  | with_reducible refine w_tB ?_
  | with_reducible refine w_bl ?_
  | with_reducible refine w_op ?_
  | with_reducible refine w_nil ?_
  | with_reducible refine w_cons ?_
  | with_reducible refine w_cb ?_
  | with_reducible refine w_I0 ?_
  | with_reducible refine w_lst ?_
  | with_reducible refine w_tup ?_
  | with_reducible refine w_sl ?_
  | with_reducible refine w_noPart ?_
  | with_reducible refine w_part ?_
  | with_reducible refine w_int ?_
  | with_reducible refine w_par ?_
  | with_reducible refine w_two ?_
  | with_reducible refine w_par3 ?_
  | with_reducible refine w_three ?_
  | with_reducible refine w_ret ?_
  | with_reducible refine w_drop ?_
  | with_reducible refine w_chain ?_
  | with_reducible refine w_and ?_
  | with_reducible refine w_or ?_
  | with_reducible refine w_not ?_
  | with_reducible refine w_notV ?_
  | with_reducible refine w_andV ?_
  | with_reducible refine w_orV ?_
  | with_reducible refine w_int1 ?_
  | with_reducible refine w_true ?_
  | with_reducible refine w_false ?_
  | with_reducible refine w_for ?_
  | with_reducible refine w_rng1 ?_
  | with_reducible refine w_rng2 ?_
  | with_reducible refine w_iList ?_
  | with_reducible refine w_iTup ?_
  | with_reducible refine w_dget ?_
  | with_reducible refine w_din ?_
  | with_reducible refine w_dnotin ?_
  | with_reducible refine w_dput ?_
  | with_reducible refine w_dget2 ?_
  | with_reducible refine w_fld ?_
  | with_reducible refine w_dnew ?_
  | with_reducible refine w_lc ?_
  | with_reducible refine w_dc ?_
  | with_reducible refine w_iStr ?_
  | with_reducible refine w_str ?_
  | with_reducible refine w_iEnum ?_
  | with_reducible refine w_iZip ?_
  | with_reducible refine w_yes ?_
  | with_reducible refine w_gtup ?_
  | with_reducible refine w_gcons ?_
  | with_reducible refine w_rcons ?_
  | with_reducible refine w_gnil ?_
  | with_reducible refine w_leS ?_
  | with_reducible refine w_isN ?_
  | with_reducible refine w_notN ?_
  | with_reducible refine w_call ?_
  | with_reducible refine w_meth ?_
  | with_reducible refine w_bm ?_
  | with_reducible refine w_bm0 ?_
  | with_reducible refine isi_int ?_
  | with_reducible refine isi_bl_int ?_
  | with_reducible refine isi_int_bl ?_
  | with_reducible refine isi_bl ?_
  | with_reducible refine isi_str ?_
  | with_reducible refine isi_non_dict ?_
  | with_reducible refine isi_int_dict ?_
  | with_reducible refine w_ntrue ?_
  | with_reducible refine w_nfalse ?_
  | with_reducible refine w_wt ?_
  | with_reducible refine w_starD ?_
  | with_reducible refine w_starT ?_
  | with_reducible refine w_listVals ?_
  | with_reducible refine w_iEnumT ?_
  | with_reducible refine w_iEnumS ?_
  | with_reducible refine w_enumS ?_
  | with_reducible refine w_frz ?_
  | with_reducible refine w_iItems ?_
  | with_reducible refine w_iKeys ?_
  | with_reducible refine w_iVals ?_
  | with_reducible refine w_strS ?_
  | with_reducible refine w_daug ?_
  | with_reducible refine w_rAdd ?_
  | with_reducible refine w_sfld ?_
  | ((with_reducible refine' w_var ?wsd ?_); (case wsd => first | rfl | assumption))
  | ((with_reducible refine' w_eq ?wsd ?_); (case wsd => rfl))
  | ((with_reducible refine' w_ne ?wsd ?_); (case wsd => rfl))
  | ((with_reducible refine' w_lenL ?wsd ?_); (case wsd => walk_at "sq"))
  | ((with_reducible refine' w_lenT ?wsd ?_); (case wsd => walk_at "sq"))
  | ((with_reducible refine' w_itL ?wsd ?_); (case wsd => walk_at "sq"))
  | ((with_reducible refine' w_itT ?wsd ?_); (case wsd => walk_at "sq"))
  | ((with_reducible refine' w_rng1v ?wsd ?_); (case wsd => omega))
  | ((with_reducible refine' w_rng2v ?wsd ?_); (case wsd => omega))
  | ((with_reducible refine' w_I ?wsd ?_); (case wsd => walk_at "side"))
  | ((with_reducible refine' w_dtrue ?wsd ?_); (case wsd => first | assumption | omega | rfl | decide))
  | ((with_reducible refine' w_dfalse ?wsd ?_); (case wsd => first | assumption | omega | decide))
  | ((with_reducible refine' w_ndtrue ?wsd ?_); (case wsd => first | assumption | omega | rfl | decide))
  | ((with_reducible refine' w_ndfalse ?wsd ?_); (case wsd => first | assumption | omega | decide))
  | ((with_reducible refine' w_stD ?wsd ?_); (case wsd => walk_at "hp"))
  | ((with_reducible refine' w_stT ?wsd ?_); (case wsd => walk_at "sq"))
  | ((with_reducible refine' w_stL ?wsd ?_); (case wsd => walk_at "sq"))
  | ((with_reducible refine' w_isD ?wsd ?_); (case wsd => walk_at "hp"))
  | ((with_reducible refine' isi_tup ?wsd ?_); (case wsd => walk_at "sq"))
  | ((with_reducible refine' isi_dict ?wsd ?_); (case wsd => walk_at "hp"))
  | ((with_reducible refine' w_lenDv ?wsd ?_); (case wsd => walk_at "hp"))
  | ((with_reducible refine' w_enum ?wsd ?_); (case wsd => walk_at "sq"))
  | ((with_reducible refine' w_enumT ?wsd ?_); (case wsd => walk_at "sq"))
  | ((with_reducible refine' w_tyL ?wsd ?_); (case wsd => walk_at "sq")))
local macro_rules | `(tactic| walk_at "side") => `(tactic| first | omega | decide | (constructor <;> omega) | (constructor <;> decide) | (simp only [List.length_map, List.length_append, List.length_cons, List.length_nil, CDivN, CMul, CPow]; first | omega | decide | (constructor <;> omega)))
local macro_rules | `(tactic| walk_at "w") => `(tactic| repeat (walk_at "w1"))
def RowOk (ks : List Str) (r : List (List Str)) : Prop := r.length ≤ 12 ∧ ∀ d ∈ r, d.length ≤ 4 ∧ ∀ t ∈ d, t ∈ ks
def spIsRow (K : PySem.W.Frag) : Sp := fun vs H Q _ => ∃ (a d : Addr) (r : List (List Str)) (ks : List Str) (g : Str → V), vs = [.ref a, .ref d] ∧ RowAt K H a r ∧ H d = some (.dK (mapK ks g)) ∧ RowOk ks r ∧ ∀ H', Same H H' → Q (.bl true) H'
def spIsKnot (K : PySem.W.Frag) : Sp := fun vs H Q _ => ∃ (a d : Addr) (fr tn : List (List Str)) (ks : List Str) (g : Str → V), vs = [.ref a, .ref d] ∧ KnAt K H a fr tn ∧ H d = some (.dK (mapK ks g)) ∧ RowOk ks fr ∧ RowOk ks tn ∧ tn ≠ [] ∧
  (∀ d ∈ tn, ∀ t ∈ d, PyData.strOk t = true) ∧ ∀ H', Same H H' → Q (.bl true) H'
def spFirstWrong (K : PySem.W.Frag) : Sp := fun vs H Q _ => ∃ (a : Addr) (xs : List Str), vs = [.ref a] ∧ SqL K H a (xs.map V.str) ∧ xs.length ≤ 100 ∧ xs.Nodup ∧ (∀ x ∈ xs, Ltr x) ∧ ∀ p H', Same H H' → H p = none → H' p = some (.lst []) → Q (.ref p) H'
abbrev N_is_row : List Str := ["thing", "known", "drop", "target"]
theorem sc_is_row : FnScope N_is_row ["thing", "known"] (defScope s_is_row) := ⟨rfl, rfl, rfl, by decide +kernel, rfl, by decide +kernel, by decide +kernel⟩
abbrev N_is_knot : List Str := ["thing", "known"]
theorem sc_is_knot : FnScope N_is_knot ["thing", "known"] (defScope s_is_knot) := ⟨rfl, rfl, rfl, by decide +kernel, rfl, by decide +kernel, by decide +kernel⟩
abbrev N_first_wrong : List Str := ["names", "seen", "name"]
theorem sc_first_wrong : FnScope N_first_wrong ["names"] (defScope s_first_wrong) := ⟨rfl, rfl, rfl, by decide +kernel, rfl, by decide +kernel, by decide +kernel⟩
section
variable {P : Program} {w : World} {K : PySem.W.Frag} {mg : Str → Option Value} {base : Heap}
theorem ok_is_row (T : TX K mg) : Fok P w K mg base CX0 1 (He.ga K "is_row") ["thing", "known"] [] (spIsRow K) := by
  obtain ⟨fd, F⟩ := T.fn_is_row
  refine ⟨⟨fd, [], ?_, F.bindsN fun _ _ _ _ _ _ us hl => match us, hl with | [_, _], _ => rfl, .nil⟩, F.kp⟩
  refine F.ok sc_is_row (fun vs H Q E h => ?_) (fun cdv A outer s H vs Q E hr h => ?_)
  · obtain ⟨_, _, _, _, _, rfl, _⟩ := h
    rfl
  obtain ⟨a, d, r, ks, g, rfl, ⟨ds, hA, hP⟩, hd, ⟨hl, hro⟩, k⟩ := h
  have hu := hu_of hr
  have hlen : ds.length = r.length := paired_len hP
  refine ssx_nox ?_
  refine ssx_cons (ps_if (PW.pt (pw_or (pt_not (pt_val (pe_callB (q_isi K) rfl T.f_isinstance bb_isinstance (pa_cons (pv 0) (pa_cons (pe_bltn (v := .ty "tuple") rfl T.f_tuple bt_tuple rfl) pa_nil))))) (pw_or1 (pt_cmpR op_gt (pe_callB (q_len K) rfl T.f_len bb_len (pa_cons (pv 0) pa_nil)) (pe_glob (v := .int 12) rfl T.i_MOST_DROPS.choose_spec ⟨_, rfl⟩) (nomark _))))) SSX.ps SSX.ps) ?_
  walk_at "w"
  refine w_dfalse (by rw [List.length_map]; omega) ?_
  refine ssx_nil ?_
  refine ssx_cons (ps_for PassesOwn.never rfl (qi_tup K (pv 0)) (pg_name (i := 2) sc_is_row.nd rfl (Or.inl rfl)) SSX.ps) ?_
  walk_at "w"
  refine for_tup (xs := ds.map V.ref) (fun i σ H1 => Same H H1 ∧ ∃ o, σ = [some (.ref a), some (.ref d), o, none]) ⟨Same.refl _, none, rfl⟩ (fun i σ H1 _ p => Same.sqt p.1 hA) ?_ ?_
  · rintro i x σ H1 hx ⟨s1, o, rfl⟩
    obtain ⟨hi, e⟩ := List.getElem?_eq_some_iff.mp hx
    rw [List.length_map] at hi
    rw [List.getElem_map] at e
    subst e
    obtain ⟨q, e1, e2⟩ := paired_get (i := i) (y := r[i]'(by omega)) hP (by simp)
    rw [List.getElem?_eq_getElem hi] at e1
    cases e1
    have hdr := hro (r[i]'(by omega)) (List.getElem_mem _)
    generalize r[i]'(by omega) = dr at *
    generalize ds[i] = q at *
    have ht := Same.sqt s1 e2
    walk_at "w"
    refine ssx_cons (ps_if (PW.pt (pw_or (pt_not (pt_val (pe_callB (q_isi K) rfl T.f_isinstance bb_isinstance (pa_cons (pv 2) (pa_cons (pe_bltn (v := .ty "tuple") rfl T.f_tuple bt_tuple rfl) pa_nil))))) (pw_or1 (pt_cmpR op_gt (pe_callB (q_len K) rfl T.f_len bb_len (pa_cons (pv 2) pa_nil)) (pe_glob (v := .int 4) rfl T.i_MOST_TARGETS.choose_spec ⟨_, rfl⟩) (nomark _))))) SSX.ps SSX.ps) ?_
    walk_at "w"
    refine w_dfalse (by rw [List.length_map]; omega) ?_
    refine ssx_nil ?_
    refine ssx_cons (ps_if (pt_not (pt_val (pe_callB (q_all K rfl) rfl T.f_all bb_all (pa_cons (pe_lc (own := [("target", 3)]) rfl sc_is_row.nd (qi_tup K (pv 2)) (blkOk_by (N := N_is_row) (sc := defScope s_is_row) (by decide +kernel)) (fun _ _ _ _ _ => (pg_name (i := 3) sc_is_row.nd rfl (Or.inl rfl))) (fun _ _ _ _ _ => pts_nil) (fun _ _ _ _ _ => (pe_and (pe_callB (q_isi K) rfl T.f_isinstance bb_isinstance (pa_cons (pv 3) (pa_cons (pe_bltn (v := .ty "str") rfl T.f_str bt_str rfl) pa_nil))) (pe_one (pe_cmp (pc_din hu (pv 3) (pv 1))))))) pa_nil)))) SSX.ps SSX.ps) ?_
    walk_at "w"
    refine rlcV (walk_tup (xs := dr.map V.str)) (fun i acc => acc = List.replicate i (V.bl true)) (by rw [List.length_map]; omega) (fun H' s' => Same.sqt s' ht) rfl ?_ ?_
    · rintro j acc x H2 _ hj _ s2 rfl ⟨rfl, hx⟩ KT KF hKT hKF
      obtain ⟨hj', e⟩ := List.getElem?_eq_some_iff.mp hx
      rw [List.length_map] at hj'
      rw [List.getElem_map] at e
      subst e
      have hm := hdr.2 dr[j] (List.getElem_mem _)
      walk_at "w"
      refine ⟨rfl, ?_⟩
      walk_at "w"
      refine w_inK (ks := ks) (f := g) (s2 _ _ (s1 _ _ hd)) ?_
      rw [decide_eq_true hm]
      exact hKT _ _ (Same.refl _) (List.replicate_succ' ..).symm
    · rintro D acc H2 hD s2 h3 _ rfl
      walk_at "w"
      refine w_all (bs := List.replicate (dr.map V.str).length true) (sqL (by rw [List.map_replicate]; exact h3)) ?_
      rw [show (List.replicate (dr.map V.str).length true).all id = true by simp]
      walk_at "w"
      refine ssx_nil ?_
      exact ssx_nil ⟨s1.trans s2, _, rfl⟩
  · rintro σ H1 ⟨s1, o, rfl⟩
    refine ssx_cons (ps_ret pe_bl) ?_
    walk_at "w"
    exact k _ s1
theorem ok_is_knot (T : TX K mg) : Fok P w K mg base CX0 2 (He.ga K "is_knot") ["thing", "known"] [] (spIsKnot K) := by
  obtain ⟨fd, F⟩ := T.fn_is_knot
  refine ⟨⟨fd, [], ?_, F.bindsN fun _ _ _ _ _ _ us hl => match us, hl with | [_, _], _ => rfl, .nil⟩, F.kp⟩
  refine F.ok sc_is_knot (fun vs H Q E h => ?_) (fun cdv A outer s H vs Q E hr h => ?_)
  · obtain ⟨_, _, _, _, _, _, rfl, _⟩ := h
    rfl
  obtain ⟨a, d, fr, tn, ks, g, rfl, ⟨f, t, hA, hF, hT⟩, hd, ofr, otn, hne, hstr, k⟩ := h
  have hu := hu_of hr
  have O_is_row := @ok_is_row P w K mg base T
  refine ssx_nox ?_
  refine ssx_cons (ps_if (PW.pt (pw_or (pt_not (pt_val (pe_callB (q_isi K) rfl T.f_isinstance bb_isinstance (pa_cons (pv 0) (pa_cons (pe_bltn (v := .ty "tuple") rfl T.f_tuple bt_tuple rfl) pa_nil))))) (pw_or (pt_cmpR op_ne (pe_callB (q_len K) rfl T.f_len bb_len (pa_cons (pv 0) pa_nil)) pe_int (nomark _)) (pw_or1 (pt_not (pt_val (pe_callF O_is_row (hr.mono (by decide)) rfl T.g_is_row pass0 (pa_cons (pe_ix (q_ixT K) (pv 0) pe_int (fun _ _ => rfl)) (pa_cons (pv 1) pa_nil))))))))) SSX.ps SSX.ps) ?_
  walk_at "w"
  refine w_ixT (v := .ref f) hA rfl ?_
  walk_at "w"
  refine ⟨f, d, fr, ks, g, rfl, hF, hd, ofr, fun H1 s1 => ?_⟩
  walk_at "w"
  refine ssx_nil ?_
  refine ssx_cons (ps_ret (pe_and (pe_callF O_is_row (hr.mono (by decide)) rfl T.g_is_row pass0 (pa_cons (pe_ix (q_ixT K) (pv 0) pe_int (fun _ _ => rfl)) (pa_cons (pv 1) pa_nil))) (pe_one (pe_cmpR (q_neD K hr.units) (pe_ix (q_ixT K) (pv 0) pe_int (fun _ _ => rfl)) (pe_tup pa_nil) (nomark _))))) ?_
  walk_at "w"
  refine w_ixT (v := .ref t) (Same.sqt s1 hA) rfl ?_
  walk_at "w"
  refine ⟨t, d, tn, ks, g, rfl, hT.same s1, s1 _ _ hd, otn, fun H2 s2 => ?_⟩
  walk_at "w"
  refine w_ixT (v := .ref t) (Same.sqt (s1.trans s2) hA) rfl ?_
  walk_at "w"
  refine w_newT (by simp) fun q H3 hq s3 h3 => ?_
  obtain ⟨ds, hA2, hP2⟩ := hT.same ((s1.trans s2).trans s3)
  have hdl : ∀ (ds : List Addr) (tn : List (List Str)), Paired (fun d dr => SqT K H3 d (dr.map V.str)) ds tn → (∀ d ∈ tn, ∀ t ∈ d, PyData.strOk t = true) → DL K H3 (ds.map V.ref) (tn.map fun d => .tuple (d.map .str)) := by
    intro ds tn h
    induction h with
    | nil => exact fun _ => DL.nil
    | @cons d dr ds tn r _ ih =>
      intro hs
      have l := lay_strs dr (hs dr (List.mem_cons_self ..))
      exact DL.cons (.tup r (dp_strs dr)) (by simp [PyData.canLay0, l.1]) (by simp [PyData.depth, l.2]) (ih fun d hd => hs d (List.mem_cons_of_mem _ hd))
  refine w_neNilT hA2 (sqT h3) (hdl ds tn hP2 hstr) ?_
  have : (!(ds.map V.ref).isEmpty) = true := by
    have := paired_len hP2
    cases ds <;> cases tn <;> simp_all
  rw [this]
  exact k _ ((s1.trans s2).trans s3)
end
section
variable {P : Program} {w : World} {K : PySem.W.Frag} {mg : Str → Option Value} {base : Heap}
theorem ok_first_wrong (T : TX K mg) : Fok P w K mg base CX0 2 (He.ga K "first_wrong") ["names"] [] (spFirstWrong K) := by
  obtain ⟨fd, F⟩ := T.fn_first_wrong
  refine ⟨⟨fd, [], ?_, F.bindsN fun _ _ _ _ _ _ us hl => match us, hl with | [_], _ => rfl, .nil⟩, F.kp⟩
  refine F.ok sc_first_wrong (fun vs H Q E h => ?_) (fun cdv A outer s H vs Q E hr h => ?_)
  · obtain ⟨_, _, rfl, _⟩ := h
    rfl
  obtain ⟨a, xs, rfl, hA, hl, hnd, hlt, k⟩ := h
  have hu := hu_of hr
  have O_is_name := @ok_is_name P w K mg base T
  refine ssx_nox ?_
  refine ssx_cons (ps_set (i := 1) sc_first_wrong.nd rfl (Or.inl rfl) pe_dnewK) ?_
  walk_at "w"
  refine w_new fun d H1 hd s1 h1 => ?_
  walk_at "w"
  refine ssx_cons (ps_for PassesOwn.never rfl (qi_list K (pv 0)) (pg_name (i := 2) sc_first_wrong.nd rfl (Or.inl rfl)) SSX.ps) ?_
  walk_at "w"
  refine for_list (xs := xs.map V.str) (fun i σ H2 => Same H H2 ∧ H2 d = some (.dK (mapK (xs.take i) fun _ => .bl true)) ∧ ∃ o, σ = [some (.ref a), some (.ref d), o]) ⟨s1, h1, none, rfl⟩ (fun i σ H1 _ p => p.1.seq hA) ?_ ?_
  · rintro i x σ H2 hx ⟨s2, h2, o, rfl⟩
    obtain ⟨hi, e⟩ := List.getElem?_eq_some_iff.mp hx
    rw [List.length_map] at hi
    rw [List.getElem_map] at e
    subst e
    have hy := hlt xs[i] (List.getElem_mem _)
    have hnot : xs[i] ∉ xs.take i := fun z => by
      obtain ⟨j, hj, ej⟩ := List.mem_iff_getElem.mp z
      rw [List.length_take] at hj
      rw [List.getElem_take] at ej
      exact List.pairwise_iff_getElem.mp hnd j i (by omega) hi (by omega) ej
    have htk : xs.take (i + 1) = xs.take i ++ [xs[i]] := by rw [List.take_succ, List.getElem?_eq_getElem hi]; rfl
    generalize xs[i] = y at *
    walk_at "w"
    refine ssx_cons (ps_if (PW.pt (pw_or (pt_not (pt_val (pe_callF O_is_name (hr.mono (by decide)) rfl T.g_is_name pass0 (pa_cons (pv 2) pa_nil)))) (pw_or1 (pt_cmp (pc_din hu (pv 2) (pv 1)))))) SSX.ps SSX.ps) ?_
    walk_at "w"
    refine ⟨y, rfl, hy, fun H3 s3 => ?_⟩
    walk_at "w"
    refine w_inK (s3 _ _ h2) ?_
    walk_at "w"
    refine ssx_nil ?_
    refine ssx_cons (ps_dput hu (pv 1) (pv 2) pe_bl rfl) ?_
    walk_at "w"
    refine w_putK (s3 _ _ h2) (by rw [List.length_take]; omega) ?_
    refine ssx_nil ⟨Same.mut (s2.trans s3) hd, ?_, _, rfl⟩
    rw [upd_same, htk, show ins (xs.take i) y = xs.take i ++ [y] from if_neg hnot]
    congr 2
    refine mapK_congr fun x _ => ?_
    by_cases e : x = y
    · subst e; exact NetD.up_same
    · exact NetD.up_ne e
  · rintro σ H2 ⟨s2, h2, o, rfl⟩
    refine ssx_cons (ps_ret (pe_lst pa_nil)) ?_
    walk_at "w"
    refine w_newL (by simp) fun p H3 hp s3 h3 => ?_
    exact k p H3 (s2.trans s3) (s2.free hp) h3
end
end K1
namespace K1
open PySem PySem.Spec L2
open PyProof.Rows hiding St
local macro_rules | `(tactic| walk_at "hp") => `(tactic| first | assumption | exact upd_same | (refine' Same.to ?wse ?wsh; (case wse => assumption); (case wsh => walk_at "hp")) | ((rw [upd_ne (by first | assumption | (apply Ne.symm; assumption))]); walk_at "hp"))
local macro_rules | `(tactic| walk_at "sq") => `(tactic| first | assumption | exact sqL (by walk_at "hp") | exact sqT (by walk_at "hp") | (refine' Same.seqTo ?wse ?wsh; (case wse => assumption); (case wsh => walk_at "sq")) | (refine' Same.sqtTo ?wse ?wsh; (case wse => assumption); (case wsh => walk_at "sq")))
local macro_rules | `(tactic| walk_at "w1") => `(tactic| first
  | with_reducible refine w_asg ?_
  | with_reducible refine w_c ?_
  | with_reducible refine w_gname ?_
  | with_reducible refine w_if ?_
  | with_reducible refine w_ifs ?_
  | with_reducible refine w_test ?_
  | with_reducible refine w_tB ?_
  | with_reducible refine w_bl ?_
  | with_reducible refine w_op ?_
  | with_reducible refine w_nil ?_
  | with_reducible refine w_cons ?_
  | with_reducible refine w_cb ?_
  | with_reducible refine w_I0 ?_
  | with_reducible refine w_lst ?_
  | with_reducible refine w_tup ?_
  | with_reducible refine w_sl ?_
  | with_reducible refine w_noPart ?_
  | with_reducible refine w_part ?_
  | with_reducible refine w_int ?_
  | with_reducible refine w_par ?_
  | with_reducible refine w_two ?_
  | with_reducible refine w_par3 ?_
  | with_reducible refine w_three ?_
  | with_reducible refine w_ret ?_
  | with_reducible refine w_drop ?_
  | with_reducible refine w_chain ?_
  | with_reducible refine w_and ?_
  | with_reducible refine w_or ?_
  | with_reducible refine w_not ?_
  | with_reducible refine w_notV ?_
  | with_reducible refine w_andV ?_
  | with_reducible refine w_orV ?_
  | with_reducible refine w_int1 ?_
  | with_reducible refine w_true ?_
  | with_reducible refine w_false ?_
  | with_reducible refine w_for ?_
  | with_reducible refine w_rng1 ?_
  | with_reducible refine w_rng2 ?_
  | with_reducible refine w_iList ?_
  | with_reducible refine w_iTup ?_
  | with_reducible refine w_dget ?_
  | with_reducible refine w_din ?_
  | with_reducible refine w_dnotin ?_
  | with_reducible refine w_dput ?_
  | with_reducible refine w_dget2 ?_
  | with_reducible refine w_fld ?_
  | with_reducible refine w_dnew ?_
  | with_reducible refine w_lc ?_
  | with_reducible refine w_dc ?_
  | with_reducible refine w_iStr ?_
  | with_reducible refine w_str ?_
  | with_reducible refine w_iEnum ?_
  | with_reducible refine w_iZip ?_
  | with_reducible refine w_yes ?_
  | with_reducible refine w_gtup ?_
  | with_reducible refine w_gcons ?_
  | with_reducible refine w_rcons ?_
  | with_reducible refine w_gnil ?_
  | with_reducible refine w_leS ?_
  | with_reducible refine w_isN ?_
  | with_reducible refine w_notN ?_
  | with_reducible refine w_call ?_
  | with_reducible refine w_meth ?_
  | with_reducible refine w_bm ?_
  | with_reducible refine w_bm0 ?_
  | with_reducible refine isi_int ?_
  | with_reducible refine isi_bl_int ?_
  | with_reducible refine isi_int_bl ?_
  | with_reducible refine isi_bl ?_
  | with_reducible refine isi_str ?_
  | with_reducible refine isi_non_dict ?_
  | with_reducible refine isi_int_dict ?_
  | with_reducible refine w_ntrue ?_
  | with_reducible refine w_nfalse ?_
  | with_reducible refine w_wt ?_
  | with_reducible refine w_starD ?_
  | with_reducible refine w_starT ?_
  | with_reducible refine w_listVals ?_
  | with_reducible refine w_iEnumT ?_
  | with_reducible refine w_iEnumS ?_
  | with_reducible refine w_enumS ?_
  | with_reducible refine w_frz ?_
  | with_reducible refine w_iItems ?_
  | with_reducible refine w_iKeys ?_
  | with_reducible refine w_iVals ?_
  | with_reducible refine w_strS ?_
  | with_reducible refine w_daug ?_
  | with_reducible refine w_rAdd ?_
  | with_reducible refine w_sfld ?_
  | ((with_reducible refine' w_var ?wsd ?_); (case wsd => first | rfl | assumption))
  | ((with_reducible refine' w_eq ?wsd ?_); (case wsd => rfl))
  | ((with_reducible refine' w_ne ?wsd ?_); (case wsd => rfl))
  | ((with_reducible refine' w_lenL ?wsd ?_); (case wsd => walk_at "sq"))
  | ((with_reducible refine' w_lenT ?wsd ?_); (case wsd => walk_at "sq"))
  | ((with_reducible refine' w_itL ?wsd ?_); (case wsd => walk_at "sq"))
  | ((with_reducible refine' w_itT ?wsd ?_); (case wsd => walk_at "sq"))
  | ((with_reducible refine' w_rng1v ?wsd ?_); (case wsd => omega))
  | ((with_reducible refine' w_rng2v ?wsd ?_); (case wsd => omega))
  | ((with_reducible refine' w_I ?wsd ?_); (case wsd => walk_at "side"))
  | ((with_reducible refine' w_dtrue ?wsd ?_); (case wsd => first | assumption | omega | rfl | decide))
  | ((with_reducible refine' w_dfalse ?wsd ?_); (case wsd => first | assumption | omega | decide))
  | ((with_reducible refine' w_ndtrue ?wsd ?_); (case wsd => first | assumption | omega | rfl | decide))
  | ((with_reducible refine' w_ndfalse ?wsd ?_); (case wsd => first | assumption | omega | decide))
  | ((with_reducible refine' w_stD ?wsd ?_); (case wsd => walk_at "hp"))
  | ((with_reducible refine' w_stT ?wsd ?_); (case wsd => walk_at "sq"))
  | ((with_reducible refine' w_stL ?wsd ?_); (case wsd => walk_at "sq"))
  | ((with_reducible refine' w_isD ?wsd ?_); (case wsd => walk_at "hp"))
  | ((with_reducible refine' isi_tup ?wsd ?_); (case wsd => walk_at "sq"))
  | ((with_reducible refine' isi_dict ?wsd ?_); (case wsd => walk_at "hp"))
  | ((with_reducible refine' w_lenDv ?wsd ?_); (case wsd => walk_at "hp"))
  | ((with_reducible refine' w_enum ?wsd ?_); (case wsd => walk_at "sq"))
  | ((with_reducible refine' w_enumT ?wsd ?_); (case wsd => walk_at "sq"))
  | ((with_reducible refine' w_tyL ?wsd ?_); (case wsd => walk_at "sq")))
local macro_rules | `(tactic| walk_at "side") => `(tactic| first | omega | decide | (constructor <;> omega) | (constructor <;> decide) | (simp only [List.length_map, List.length_append, List.length_cons, List.length_nil, CDivN, CMul, CPow]; first | omega | decide | (constructor <;> omega)))
local macro_rules | `(tactic| walk_at "w") => `(tactic| repeat (walk_at "w1"))
def spNetMet (K : PySem.W.Frag) : Sp := fun vs H Q _ => ∃ (p : Addr) (N : NetD), vs = [.ref p] ∧ NetAt K H p N ∧ N.Ok ∧ ∀ d ks H', Same H H' → H d = none → H' d = some (.dK (mapK ks fun _ => .bl true)) → (∀ k ∈ N.names, k ∈ ks) → Q (.ref d) H'
abbrev N_Net_met : List Str := ["self", "found", "rest", "name", "drop", "target"]
theorem sc_Net_met : FnScope N_Net_met ["self"] (defScope s_Net_met) := ⟨rfl, rfl, rfl, by decide +kernel, rfl, by decide +kernel, by decide +kernel⟩
structure MetI (N : NetD) (fs rs : List Str) : Prop where
  nd : fs.Nodup
  fn : ∀ k ∈ fs, k ∈ N.names
  rn : ∀ k ∈ rs, k ∈ N.names
  a : ("a" : Str) ∈ fs ∨ ("a" : Str) ∈ rs
  cl : ∀ k ∈ fs, ∀ d ∈ N.tn k, ∀ t ∈ d, t ∈ N.names → t ∈ fs ∨ t ∈ rs
theorem MetI.done {N : NetD} (h : N.Ok) {fs : List Str} (m : MetI N fs []) : ∀ k ∈ N.names, k ∈ fs := by
  have key : ∀ (i : Nat) (k : Str), N.names[i]? = some k → k ∈ fs := by
    intro i
    induction i with
    | zero =>
      intro k hk
      obtain ⟨n, h1, _, e⟩ := h.nm
      have : k = "a" := by
        rw [e] at hk
        match n, h1 with
        | n + 1, _ => simpa using hk.symm
      subst this
      exact m.a.elim id fun z => by simp at z
    | succ i ih =>
      intro k hk
      obtain ⟨hlt, _⟩ := List.getElem?_eq_some_iff.mp hk
      have hi : N.names[i]? = some N.names[i] := List.getElem?_eq_getElem (by omega)
      have := ih _ hi
      exact (m.cl _ this [k] (h.ch i _ k hi hk) k (by simp) (List.mem_of_getElem? hk)).elim id fun z => by simp at z
  intro k hk
  obtain ⟨i, hi, e⟩ := List.mem_iff_getElem.mp hk
  exact key i k (by rw [List.getElem?_eq_getElem hi, e])
section
variable {P : Program} {w : World} {K : PySem.W.Frag} {mg : Str → Option Value} {base : Heap}
theorem ok_Net_met (T : TX K mg) : Fok P w K mg base CX0 1 (He.ma K (He.ga K "Net") "met") ["self"] [] (spNetMet K) := by
  obtain ⟨fd, F⟩ := T.fn_Net_met
  refine ⟨⟨fd, [], ?_, F.bindsN fun _ _ _ _ _ _ us hl => match us, hl with | [_], _ => rfl, .nil⟩, F.kp⟩
  refine F.ok sc_Net_met (fun vs H Q E h => ?_) (fun cdv A outer s H vs Q E hr h => ?_)
  · obtain ⟨_, _, rfl, _⟩ := h
    rfl
  obtain ⟨p, N, rfl, ⟨dk, di, to, ln, dx, hN⟩, hok, k⟩ := h
  have hu := hu_of hr
  refine ssx_nox ?_
  refine ssx_cons (ps_par (i := 1) (j := 2) rfl sc_Net_met.nd rfl rfl (by decide) rfl rfl (pa_cons pe_dnewK (pa_cons (pe_listValues rfl (q_fld K (pv 0) rfl) rfl T.f_list bt_list) pa_nil)) rfl) ?_
  walk_at "w"
  refine w_new fun d H1 hd s1 h1 => ?_
  walk_at "w"
  refine w_ninlets T (hN.same s1) ?_
  refine w_lv (hN.same s1).il fun l H2 hl s2 h2 => ?_
  walk_at "w"
  have hld : l ≠ d := fun z => by rw [z, h1] at hl; cases hl
  have hl0 : H l = none := s1.free hl
  refine ssx_cons (ps_while PassesOwn.never (pt_cmpR (q_neD K hr.units) (pv 2) (pe_lst pa_nil) (nomark _)) SSX.ps) ?_
  refine w_while (fun m σ H3 => ∃ fs rs o3 o4, σ = [some (.ref p), some (.ref d), some (.ref l), o3, o4, none] ∧ Same H H3 ∧ H3 d = some (.dK (mapK fs fun _ => .bl true)) ∧ H3 l = some (.lst (rs.map V.str)) ∧ MetI N fs rs ∧ rs.length ≤ 2 + 10 * fs.length ∧ m = (4 - fs.length) * 100 + rs.length)
    402 ⟨[], ["a", N.jk], none, none, rfl, s1.trans s2, s2 _ _ h1, h2, ⟨List.nodup_nil, by simp, fun k hk => by
      rcases List.mem_cons.mp hk with rfl | hk
      · exact hok.a_in
      · rw [List.mem_singleton.mp hk]; exact hok.jk, .inr (by simp), by simp⟩, by simp, by simp⟩ ?_
  rintro m σ H3 ⟨fs, rs, o3, o4, rfl, s3, h3d, h3l, hI, hrl, rfl⟩
  have hfl : fs.length ≤ 4 := Nat.le_trans (List.Nodup.length_le_of_subset hI.nd hI.fn) hok.len.2
  walk_at "w"
  refine w_newL (by simp) fun e H4 he s4 h4 => ?_
  refine w_neNilL (s4.seq (sqL h3l)) (sqL h4) (DL.strs rs fun x hx => names_ltr hok x (hI.rn x hx)) ?_
  walk_at "w"
  refine w_both (fun hne => ?_) fun hne => ?_
  · have hrs : rs ≠ [] := by rintro rfl; simp at hne
    obtain ⟨rs', y, rfl⟩ : ∃ rs' y, rs = rs' ++ [y] := ⟨rs.dropLast, rs.getLast hrs, (List.dropLast_concat_getLast hrs).symm⟩
    rw [List.length_append, List.length_singleton] at *
    have hy : y ∈ N.names := hI.rn y (by simp)
    walk_at "w"
    refine ssx_cons (ps_set (i := 3) sc_Net_met.nd rfl (Or.inl rfl) (q_bm0 K PySem.F.plainAttrs_list PySem.F.slot_list_pop PySem.F.type_list_pop mt_pop (pv 2))) ?_
    walk_at "w"
    have h4l := s4 _ _ h3l
    rw [List.map_append] at h4l
    refine w_pop (y := .str y) h4l ?_
    walk_at "w"
    generalize hH5 : upd H4 l (.lst (rs'.map V.str)) = H5
    have s5 : Same H H5 := by rw [← hH5]; exact Same.mut (s3.trans s4) hl0
    have h5l : H5 l = some (.lst (rs'.map V.str)) := by rw [← hH5, upd_same]
    have h5d : H5 d = some (.dK (mapK fs fun _ => .bl true)) := by rw [← hH5, upd_ne hld.symm]; exact s4 _ _ h3d
    clear hH5
    refine ssx_cons (ps_if (pt_cmp (pc_dnotin hu (pv 3) (pv 1))) SSX.ps SSX.ps) ?_
    walk_at "w"
    refine w_notinK h5d ?_
    walk_at "w"
    refine w_ndcases (fun hyf => ?_) fun hyf => ?_
    · refine ssx_nil (ssx_nil ⟨_, ?_, fs, rs', _, _, rfl, s5, h5d, h5l, ⟨hI.nd, hI.fn, fun k hk => hI.rn k (by simp [hk]), ?_, ?_⟩, by omega, rfl⟩)
      · omega
      · rcases hI.a with z | z
        · exact .inl z
        · rcases List.mem_append.mp z with z | z
          · exact .inr z
          · rw [List.mem_singleton.mp z]; exact .inl hyf
      · intro k hk dr hdr t ht htn
        rcases hI.cl k hk dr hdr t ht htn with z | z
        · exact .inl z
        · rcases List.mem_append.mp z with z | z
          · exact .inr z
          · rw [List.mem_singleton.mp z]; exact .inl hyf
    · refine ssx_cons (ps_dput hu (pv 1) (pv 3) pe_bl rfl) ?_
      walk_at "w"
      refine w_putK h5d (by omega) ?_
      have em : mapK (ins fs y) (up (fun _ => V.bl true) y (.bl true)) = mapK (fs ++ [y]) fun _ => .bl true := by
        rw [show ins fs y = fs ++ [y] from if_neg hyf]
        refine mapK_congr fun x _ => ?_
        by_cases e : x = y
        · subst e; exact NetD.up_same
        · exact NetD.up_ne e
      rw [em]
      generalize hH6 : upd H5 d (.dK (mapK (fs ++ [y]) fun _ => .bl true)) = H6
      have s6 : Same H H6 := by rw [← hH6]; exact Same.mut s5 (by
        cases q : H d with
        | none => rfl
        | some o => have := hd; rw [q] at this; cases this)
      have h6l : H6 l = some (.lst (rs'.map V.str)) := by rw [← hH6, upd_ne hld]; exact h5l
      have h6d : H6 d = some (.dK (mapK (fs ++ [y]) fun _ => .bl true)) := by rw [← hH6, upd_same]
      clear hH6
      have N6 := hN.same s6
      obtain ⟨ka, hka, hkn⟩ := N6.kn
      obtain ⟨fa, ta, hkt, hF, ds, hA, hP⟩ := hkn y hy
      refine ssx_cons (ps_for PassesOwn.never rfl (qi_tup K (pe_ix (q_ixT K) (pe_dget hu (q_fld K (pv 0) rfl) (pv 3) (fun _ _ => rfl)) pe_int (fun _ _ => rfl))) (pg_name (i := 4) sc_Net_met.nd rfl (Or.inl rfl)) SSX.ps) ?_
      walk_at "w"
      refine w_nknots T N6 ?_
      walk_at "w"
      refine w_getK hka hy ?_
      walk_at "w"
      refine w_ixT (v := .ref ta) hkt rfl ?_
      refine w_itT hA ?_
      have hdl : ds.length = (N.tn y).length := paired_len hP
      have htl := hok.tl y hy
      refine for_tup (xs := ds.map V.ref) (fun i σ H7 => ∃ rs2 o4, σ = [some (.ref p), some (.ref d), some (.ref l), some (.str y), o4, none] ∧ Same H H7 ∧ Same H6 (upd H7 l (.lst (rs'.map V.str))) ∧ H7 d = some (.dK (mapK (fs ++ [y]) fun _ => .bl true)) ∧ H7 l = some (.lst ((rs' ++ rs2).map V.str)) ∧
          rs2.length ≤ 2 * i ∧ (∀ t ∈ rs2, t ∈ N.names) ∧ ∀ dr ∈ (N.tn y).take i, ∀ t ∈ dr, t ∈ N.names → t ∈ rs2) ?_ ?_ ?_ ?_
      · refine ⟨[], _, rfl, s6, ?_, h6d, by simpa using h6l, by simp, by simp, by simp⟩
        intro b o e
        by_cases z : b = l
        · subst z; rw [h6l] at e; cases e; exact upd_same
        · rw [upd_ne z]; exact e
      · rintro i σ H7 _ ⟨rs2, o4, rfl, s7, e7, _, h7l, _⟩
        have := Same.sqt e7 hA
        rcases this with (z | ⟨o, z⟩) | z
        · by_cases q : ta = l
          · subst q; rw [upd_same] at z; cases z
          · rw [upd_ne q] at z; exact .inl (.inl z)
        · by_cases q : ta = l
          · subst q; rw [upd_same] at z; cases z
          · rw [upd_ne q] at z; exact .inl (.inr ⟨o, z⟩)
        · exact .inr z
      · rintro i x σ H7 hx ⟨rs2, o4', rfl, s7, e7, h7d, h7l, hr2, hrn2, hcl2⟩
        obtain ⟨hi, e⟩ := List.getElem?_eq_some_iff.mp hx
        rw [List.length_map] at hi
        rw [List.getElem_map] at e
        subst e
        have hi2 : i < (N.tn y).length := by omega
        obtain ⟨q, e1, e2⟩ := paired_get (i := i) (y := (N.tn y)[i]) hP (by simp)
        rw [List.getElem?_eq_getElem hi] at e1
        cases e1
        have hdr := hok.dr y hy (N.tn y)[i] (List.mem_append.mpr (.inr (List.getElem_mem _)))
        have htk : (N.tn y).take (i + 1) = (N.tn y).take i ++ [(N.tn y)[i]] := by rw [List.take_succ, List.getElem?_eq_getElem hi2]; rfl
        generalize (N.tn y)[i] = dr at *
        generalize ds[i] = q at *
        have ht : SqT K H7 q (dr.map V.str) := by
          have := Same.sqt e7 e2
          rcases this with (z | ⟨o, z⟩) | z
          · by_cases w : q = l
            · subst w; rw [upd_same] at z; cases z
            · rw [upd_ne w] at z; exact .inl (.inl z)
          · by_cases w : q = l
            · subst w; rw [upd_same] at z; cases z
            · rw [upd_ne w] at z; exact .inl (.inr ⟨o, z⟩)
          · exact .inr z
        have N7 := hN.same s7
        obtain ⟨ka7, hka7, _⟩ := N7.kn
        walk_at "w"
        refine ssx_cons (ps_expr (q_bm K PySem.F.plainAttrs_list PySem.F.slot_list_extend PySem.F.type_list_extend mt_extend (pv 2) (pa_cons (pe_lc (own := [("target", 5)]) rfl sc_Net_met.nd (qi_tup K (pv 4)) (blkOk_by (N := N_Net_met) (sc := defScope s_Net_met) (by decide +kernel)) (fun _ _ _ _ _ => (pg_name (i := 5) sc_Net_met.nd rfl (Or.inl rfl))) (fun _ _ _ _ _ => (pts_one (pt_cmp (pc_din hu (pv 5) (q_fld K (pv 0) rfl))))) (fun _ _ _ _ _ => (pv 5))) pa_nil))) ?_
        walk_at "w"
        refine rlcV (walk_tup (xs := dr.map V.str)) (fun j acc => acc = ((dr.take j).filter fun t => decide (t ∈ N.names)).map V.str) (by rw [List.length_map]; omega) (fun H' s' => Same.sqt s' ht) rfl ?_ ?_
        · rintro j acc x H8 _ hj _ s8 rfl ⟨rfl, hx⟩ KT KF hKT hKF
          obtain ⟨hj', e⟩ := List.getElem?_eq_some_iff.mp hx
          rw [List.length_map] at hj'
          rw [List.getElem_map] at e
          subst e
          have htk : dr.take (j + 1) = dr.take j ++ [dr[j]] := by rw [List.take_succ, List.getElem?_eq_getElem hj']; rfl
          generalize dr[j] = t at *
          walk_at "w"
          refine ⟨rfl, ?_⟩
          walk_at "w"
          refine w_nknots T (N7.same s8) ?_
          refine w_inK (s8 _ _ hka7) ?_
          walk_at "w"
          refine w_dcases (fun hm => ?_) fun hm => ?_
          · walk_at "w"
            refine hKT _ _ (Same.refl _) ?_
            rw [htk, List.filter_append, List.map_append]; simp [hm]
          · refine hKF _ (Same.refl _) ?_
            rw [htk, List.filter_append, List.map_append]; simp [hm]
        · rintro D acc H8 hD s8 h8 hal rfl
          walk_at "w"
          rw [List.length_map, List.take_length] at *
          have hfl2 : (dr.filter fun t => decide (t ∈ N.names)).length ≤ dr.length := List.length_filter_le _ _
          refine w_ext (s8 _ _ h7l) h8 (by simp only [List.length_map, List.length_append]; omega) ?_
          have hDl : D ≠ l := fun z => by rw [z, h7l] at hD; cases hD
          refine ssx_nil ⟨rs2 ++ dr.filter fun t => decide (t ∈ N.names), _, rfl, Same.mut (s7.trans s8) hl0, ?_, ?_, ?_, ?_, ?_, ?_⟩
          · intro b o e
            by_cases z : b = l
            · subst z
              have := e7 _ _ e
              rw [upd_same] at this ⊢
              exact this
            · have := e7 _ _ e
              rw [upd_ne z] at this
              rw [upd_ne z, upd_ne z]
              exact s8 _ _ this
          · rw [upd_ne hld.symm]; exact s8 _ _ h7d
          · rw [upd_same]; simp [List.map_append]
          · rw [List.length_append]; omega
          · intro t ht'
            rcases List.mem_append.mp ht' with z | z
            · exact hrn2 t z
            · exact of_decide_eq_true (List.mem_filter.mp z).2
          · intro dr' hdr' t ht' htn
            rw [htk] at hdr'
            rcases List.mem_append.mp hdr' with z | z
            · exact List.mem_append.mpr (.inl (hcl2 dr' z t ht' htn))
            · rw [List.mem_singleton.mp z] at ht'
              exact List.mem_append.mpr (.inr (List.mem_filter.mpr ⟨ht', by simp [htn]⟩))
      · rintro σ H7 ⟨rs2, o4', rfl, s7, e7, h7d, h7l, hr2, hrn2, hcl2⟩
        rw [List.length_map, hdl, List.take_length] at *
        have hfl' : (fs ++ [y]).length ≤ 4 := Nat.le_trans (List.Nodup.length_le_of_subset (by
          rw [List.nodup_append]
          exact ⟨hI.nd, by simp, fun a ha b hb => by simp at hb; subst hb; exact fun z => hyf (z ▸ ha)⟩) (by
          intro k hk
          rcases List.mem_append.mp hk with z | z
          · exact hI.fn k z
          · rw [List.mem_singleton.mp z]; exact hy)) hok.len.2
        rw [List.length_append, List.length_singleton] at hfl'
        refine ssx_nil (ssx_nil ⟨_, ?_, fs ++ [y], rs' ++ rs2, _, _, rfl, s7, h7d, h7l, ⟨?_, ?_, ?_, ?_, ?_⟩, ?_, rfl⟩)
        · simp only [List.length_append, List.length_singleton]; omega
        · rw [List.nodup_append]
          exact ⟨hI.nd, by simp, fun a ha b hb => by simp at hb; subst hb; exact fun z => hyf (z ▸ ha)⟩
        · intro k hk
          rcases List.mem_append.mp hk with z | z
          · exact hI.fn k z
          · rw [List.mem_singleton.mp z]; exact hy
        · intro k hk
          rcases List.mem_append.mp hk with z | z
          · exact hI.rn k (by simp [z])
          · exact hrn2 k z
        · rcases hI.a with z | z
          · exact .inl (by simp [z])
          · rcases List.mem_append.mp z with z | z
            · exact .inr (by simp [z])
            · exact .inl (by rw [List.mem_singleton.mp z]; simp)
        · intro k hk dr hdr t ht htn
          rcases List.mem_append.mp hk with z | z
          · rcases hI.cl k z dr hdr t ht htn with z | z
            · exact .inl (by simp [z])
            · rcases List.mem_append.mp z with z | z
              · exact .inr (by simp [z])
              · exact .inl (by rw [List.mem_singleton.mp z]; simp)
          · rw [List.mem_singleton.mp z] at hdr
            exact .inr (by simp [hcl2 dr hdr t ht htn])
        · simp only [List.length_append, List.length_singleton]; omega
  · have hrs : rs = [] := by
      cases rs with
      | nil => rfl
      | cons a b => simp at hne
    subst hrs
    refine ssx_cons (ps_ret (pv 1)) ?_
    walk_at "w"
    exact k d fs H4 (s3.trans s4) (by
        cases q : H d with
        | none => rfl
        | some o => have := hd; rw [q] at this; cases this) (s4 _ _ h3d) (hI.done hok)
end
end K1
namespace K1
open PySem PySem.Spec L2
open PyProof.Rows hiding St
theorem meets_enum1 {v : Value} {o : Obj} {H : Heap → Prop} (B : Begins v o H) :
    Meets (Builtin.«enumerate.__new__» ⟨[.type "enumerate", v], []⟩) (fun _ R s => H s.heap ∧
      R (.ok (.ret (.ref (s.heap.push o).objs.size))) { s with heap := (s.heap.push o).push { cls := .type "enumerate", data := .fields #[.none, .bool false, .ref s.heap.objs.size, rawInt 0, .none, .none] } }) :=
  .of_wp fun prog w A R s h => by
    obtain ⟨hp, g, d, tk, os⟩ := s; obtain ⟨h1, h⟩ := h
    have hsub := sub_enumerate
    have q1 : ∀ {A' : Around} {E : Value → Shared → Prop} {Q : Value → Shared → Prop}, Q (.ref hp.objs.size) ⟨hp.push o, g, d, tk, os⟩ → wpAny (model prog w) A' (pyIter v) Q E ⟨hp, g, d, tk, os⟩ :=
      fun q => B.iter prog w _ _ ⟨hp, g, d, tk, os⟩ _ h1 q
    wp_walk using q1
    refine wpAny_stack_any fun st => wpAny_pure ?_
    split
    · rename_i c _ _ _ _ _
      cases (c == Value.type "enumerate")
      · wp_walk using q1
        exact ⟨_, rfl, h⟩
      · wp_walk using q1
        exact ⟨_, rfl, h⟩
    · wp_walk using q1
      exact ⟨_, rfl, h⟩
theorem enum_begins1 {prog : Program} {w : World} {A : Around} {E : Value → Shared → Prop} {s : Shared} {v : Value} {o : Obj} {H : Heap → Prop} {Q : Value → Shared → Prop} (B : Begins v o H) (h1 : H s.heap)
    (h : ∀ h', IsEnum h' (s.heap.objs.size + 1) s.heap.objs.size 0 .none → h'.get? s.heap.objs.size = some o → h'.objs.size = s.heap.objs.size + 2 →
      (∀ b o, s.heap.get? b = some o → h'.get? b = some o) → Q (.ref (s.heap.objs.size + 1)) { s with heap := h' }) :
    wpAny (model prog w) A (call (.type "enumerate") [v]) Q E s := by
  refine callType_new F.called_enumerate (by decide) (F.typeCall_enumerate_1 _) (F.newCall_enumerate_1 _) (fun obj => F.args_object_init_2 obj _) F.entry_enumerate_new
    (meets_enum1 B) ⟨h1, ?_⟩
  have hz : (s.heap.push o).objs.size = s.heap.objs.size + 1 := Heap.size_push ..
  show _ ∧ _
  rw [hz]
  have he : IsEnum ((s.heap.push o).push { cls := .type "enumerate", data := .fields #[.none, .bool false, .ref s.heap.objs.size, rawInt 0, .none, .none] }) (s.heap.objs.size + 1) s.heap.objs.size 0 .none := by
    have := Heap.get?_push_size (s.heap.push o) (o := { cls := .type "enumerate", data := .fields #[.none, .bool false, .ref s.heap.objs.size, rawInt 0, .none, .none] }) rfl
    rw [hz] at this; exact this
  refine ⟨⟨_, he, rfl⟩, h _ he (Heap.get?_push_of_some _ (Heap.get?_push_size _ B.free)) (by rw [Heap.size_push, hz]) fun b o x => Heap.get?_push_of_some _ (Heap.get?_push_of_some _ x)⟩
def Itet (K : PySem.W.Frag) (a : Addr) : It :=
  ⟨fun i H => ∃ (xs : List V) (x : V), SqT K H a xs ∧ xs[i]? = some x, fun i H v H' => ∃ T x, v = .ref T ∧ H T = none ∧ H' = upd H T (.tup [.int (i : Nat), x]) ∧ ∀ xs, SqT K H a xs → xs[i]? = some x, fun i H => ∃ xs : List V, SqT K H a xs ∧ xs.length ≤ i⟩
theorem turn_enumT {P : Program} {w : World} {K : PySem.W.Frag} {elts : List Expr} {kk : Nat} {tpos : Pos} (a e it : Addr) :
    Turn P w K (.Tuple elts kk tpos) (Itet K a) [e, it] e (fun i h => (∃ old, IsEnum h e it ((i : Nat) : Int) old) ∧ h.IsTupleIter it a i ∧ e ≠ it) where
  mem := by simp
  obj := fun i h st b hb => by
    obtain ⟨⟨old, he⟩, ⟨o, ho, hc, hd⟩, _⟩ := st
    have e' : b = e ∨ b = it := by simpa using hb
    rcases e' with z | z
    · rw [z]; exact ⟨_, he, fun v q => nomatch q⟩
    · rw [z]; exact ⟨o, ho, fun v q => by rw [hd] at q; cases q⟩
  keep := fun i h h' st k => let ⟨⟨old, he⟩, hi, hne⟩ := st; ⟨⟨old, k e (by simp) _ he⟩, hi.at fun o q => k it (by simp) o q, hne⟩
  item := by
    intro X hP hw hK hc i pins s σ H E I hf st hg
    subst hP hw hK
    obtain ⟨⟨old, he⟩, hit, hne⟩ := st
    obtain ⟨xs, x, hq, hx⟩ := hg
    obtain ⟨its, rv, p, hz⟩ := I.tuple hq
    obtain ⟨u, hu, ru⟩ := rv.get hx
    have hel : e < s.heap.objs.size := Heap.lt_size he
    have hil : it < s.heap.objs.size := by obtain ⟨_, q, _⟩ := hit; exact Heap.lt_size q
    have ht : s.heap.IsTuple a its.toArray := p
    have hai : a ≠ it := fun z => by
      subst z
      obtain ⟨o, ho, hc, _⟩ := ht
      obtain ⟨o', ho', hc', _⟩ := hit
      rw [ho] at ho'; cases ho'; rw [hc] at hc'; revert hc'; decide +kernel
    have hae : e ≠ a := fun z => by
      subst z
      obtain ⟨o, ho, hc, _⟩ := ht
      rw [show s.heap.get? e = some _ from he] at ho; cases ho; exact absurd hc (show ¬ (Value.type "enumerate" = Value.type "tuple") by decide +kernel)
    have D := Draws.tuple (prog := X.prog) (w := X.w) (A := X.A.in1) (I.ok.hd hc) it a hai its.toArray
    have hlt : i < its.toArray.size := by
      obtain ⟨z, _⟩ := List.getElem?_eq_some_iff.mp hu
      simpa using z
    refine PySem.wpAny_pyNext_enum_itemC D he ⟨hit, ht⟩ hlt hne (by simp [hne, hae]) fun y h' tk hy ho hst hT hsz hk => ?_
    obtain rfl : u = y := by
      have : its.toArray[i]? = some u := by simpa using hu
      rw [this] at hy; exact Option.some.inj hy
    refine ⟨_, rfl, wpAny_letOwnedTupleGo_enum (s := { s with heap := h', toks := tk + 1 }) ho fun h'' he' sb => ?_⟩
    have hT2 : h''.get? s.heap.objs.size = some { cls := .type "tuple", data := .seq #[.int i tk, u] } := (sb.2 _ (Nat.ne_of_gt hel)).trans hT
    have new : ObjOk X.prog X.w (upd H s.heap.objs.size (.tup [.int (i : Nat), x])) h'' s.heap.objs.size (.tup [.int (i : Nat), x]) :=
      ⟨by show 2 ≤ sizeLine; decide, [.int i tk, u], .cons ⟨_, rfl⟩ (.cons ru .nil), ⟨_, hT2, rfl, _, rfl⟩⟩
    have I1 : Inv X pins σ (upd H s.heap.objs.size (.tup [.int (i : Nat), x])) { s with heap := h'', toks := tk + 1 } :=
      I.turnedNew (ch := [e, it]) (fun b ob hb q => (sb.2 b (fun z => hb (by simp [z]))).trans (hk b ob (fun z => hb (by simp [z])) (fun z => hb (by simp [z])) q)) hf (Nat.le_refl _) new
    refine ⟨.ref s.heap.objs.size, _, I1, rfl, ⟨_, x, rfl, I.hok.fresh (Nat.le_refl _), rfl, fun ys hy => by rw [I.tuple_inj hy hq]; exact hx⟩, ⟨⟨u, ?_⟩, hst.1.at fun o q => (sb.2 it (Ne.symm hne)).trans q, hne⟩, fun b hb => ?_⟩
    · have e1 : ((i + 1 : Nat) : Int) = (i : Int) + 1 := by omega
      rw [e1]; exact he'
    · have hb' : b < s.heap.objs.size := by
        have e' : b = e ∨ b = it := by simpa using hb
        rcases e' with z | z
        · rw [z]; exact hel
        · rw [z]; exact hil
      rw [upd_ne (Nat.ne_of_lt hb')]
      exact (hf b hb).1
  done := by
    intro X hP hw hK hc i pins s σ H E I hf st hg
    subst hP hw hK
    obtain ⟨⟨old, he⟩, hit, hne⟩ := st
    obtain ⟨xs, hq, hx⟩ := hg
    obtain ⟨its, rv, p, hz⟩ := I.tuple hq
    obtain ⟨f0, f1, f2, f3, f4, f5⟩ := hf it (by simp)
    have hl := rv.length
    have ht : s.heap.IsTuple a its.toArray := p
    have hai : a ≠ it := fun z => by
      subst z
      obtain ⟨o, ho, hc, _⟩ := ht
      obtain ⟨o', ho', hc', _⟩ := hit
      rw [ho] at ho'; cases ho'; rw [hc] at hc'; revert hc'; decide +kernel
    have D0 := Draws.tuple (prog := X.prog) (w := X.w) (A := X.A.in1) (I.ok.hd hc) it a hai its.toArray
    have hd0 : ∀ (s : Shared) (Q : Value → Shared → Prop) (E : Value → Shared → Prop), (s.heap.IsTupleIter it a i ∧ s.heap.IsTuple a its.toArray) →
        (∀ h' e, Heap.ExtBut it s.heap h' → (∃ o, h'.get? e = some o ∧ o.cls = .type "StopIteration") → E (.ref e) { s with heap := h' }) → wpAny (model X.prog X.w) X.A.in1 (Builtin.SmallTypes.nextOf (.ref it)) Q E s :=
      fun s Q E st hE => wpAny_nextOf_tuple_end (I.ok.hd hc) st.1 st.2 (Array.getElem?_eq_none (by simp; omega)) hE
    have D : Draws X.prog X.w X.A.in1 it [it, a] i (fun _ _ => True) (fun j h => (h.IsTupleIter it a j ∧ h.IsTuple a its.toArray) ∧ i ≤ j) :=
      ⟨fun j h st => D0.live j h st.1, fun j h h' st hk => ⟨D0.frame j h h' st.1 hk, st.2⟩, fun j s Q E hj st hQ => absurd st.2 (by omega), fun s Q E st hE => hd0 s Q E st.1 hE⟩
    exact wpAny_pyNext_enum_endD D he ⟨⟨hit, ht⟩, Nat.le_refl _⟩ fun h' eb => ⟨rfl, I.turned (t' := s.toks) (fun b o hb q => eb b o hb q) f0 f1 f3 f4 f5⟩
  self := fun A i s Q E st h => let ⟨⟨_, he⟩, _⟩ := st; wpAny_pyIter_enum he h
def iEnumT (K : PySem.W.Frag) (ta : TA) : TI := fun σ H R => ta σ H fun vs H1 => ∃ a xs, vs = [.ref a] ∧ SqT K H1 a xs ∧ R (Itet K a) H1
theorem pi_enumT {X : Cx} {e : Expr} {ta : TA} {p pos tpos : Pos} {elts : List Expr} {kk : Nat} (hg : Gl X "enumerate") (hm : X.mg "enumerate" = none) (ha : PA X [e] ta) (hs : starEach [e] X.env = [(false, eval e X.env)] := by rfl) :
    PI X (.Tuple elts kk tpos) (.Call (.Name "enumerate" p) [e] [] pos) (iEnumT X.K ta) := by
  refine ⟨fun pins s σ H R I h => ?_⟩
  refine Call_ (ld_blt I hg hm boot_enumerate (PyProof.Rows.callWith_type1 (thn (ha.run pos pins s σ H _ I h) fun us s1 ⟨vs, H1, I1, r1, q1⟩ => ?_) hs rfl))
  obtain ⟨a, xs, ex, hq, q⟩ := q1
  subst ex
  cases r1 with
  | cons r rr =>
    cases rr
    cases r
    obtain ⟨its, rv, p', hz⟩ := I1.tuple hq
    refine enum_begins1 (begins_tuple a its.toArray) (show s1.heap.IsTuple a its.toArray from p') fun h' he hit hsz hk => wpAny_pyIter_enum he ?_
    have I2 : Inv X pins σ H1 { s1 with heap := h' } := I1.kept (t' := s1.toks) hk
    refine ⟨s1.heap.objs.size + 1, [s1.heap.objs.size + 1, s1.heap.objs.size], _, _, H1, rfl, I2, turn_enumT a (s1.heap.objs.size + 1) s1.heap.objs.size, ⟨⟨.none, he⟩, ⟨_, hit, rfl, rfl⟩, Nat.succ_ne_self _⟩, fun b hb => ?_, q⟩
    have e' : b = s1.heap.objs.size + 1 ∨ b = s1.heap.objs.size := by simpa using hb
    have hle : s1.heap.objs.size ≤ b := by
      rcases e' with z | z
      · rw [z]; exact Nat.le_add_right _ _
      · rw [z]; exact Nat.le_refl _
    exact I1.fpOk hle (I1.hok.fresh hle)
def Ites (x : Str) : It :=
  ⟨fun i _ => i < x.cps.size, fun i H v H' => ∃ T c, v = .ref T ∧ H T = none ∧ H' = upd H T (.tup [.int (i : Nat), .str ⟨#[c]⟩]) ∧ x.cps[i]? = some c, fun i _ => x.cps.size ≤ i⟩
theorem turn_enumS {P : Program} {w : World} {K : PySem.W.Frag} {elts : List Expr} {kk : Nat} {tpos : Pos} (x : Str) (t : Tok) (e it : Addr) :
    Turn P w K (.Tuple elts kk tpos) (Ites x) [e, it] e (fun i h => (∃ old, IsEnum h e it ((i : Nat) : Int) old) ∧ h.IsStrIter it (strIterType x) x t i ∧ e ≠ it) where
  mem := by simp
  obj := fun i h st b hb => by
    obtain ⟨⟨old, he⟩, ⟨o, ho, hc, hd⟩, _⟩ := st
    have e' : b = e ∨ b = it := by simpa using hb
    rcases e' with z | z
    · rw [z]; exact ⟨_, he, fun v q => nomatch q⟩
    · rw [z]; exact ⟨o, ho, fun v q => by rw [hd] at q; cases q⟩
  keep := fun i h h' st k => let ⟨⟨old, he⟩, ⟨o, ho, r⟩, hne⟩ := st; ⟨⟨old, k e (by simp) _ he⟩, ⟨o, k it (by simp) o ho, r⟩, hne⟩
  item := by
    intro X hP hw hK hc i pins s σ H E I hf st hg
    subst hP hw hK
    obtain ⟨⟨old, he⟩, hit, hne⟩ := st
    have hel : e < s.heap.objs.size := Heap.lt_size he
    have hil : it < s.heap.objs.size := by obtain ⟨_, q, _⟩ := hit; exact Heap.lt_size q
    have D := Draws.text (prog := X.prog) (w := X.w) (A := X.A.in1) (I.ok.hd hc) it x t
    refine PySem.wpAny_pyNext_enum_itemC D he hit hg hne (by simp [hne]) fun y h' tk hy ho hst hT hsz hk => ?_
    obtain ⟨c, u, hcx, rfl⟩ := hy
    refine ⟨_, rfl, wpAny_letOwnedTupleGo_enum (s := { s with heap := h', toks := tk + 1 }) ho fun h'' he' sb => ?_⟩
    have hT2 : h''.get? s.heap.objs.size = some { cls := .type "tuple", data := .seq #[.int i tk, .str ⟨#[c]⟩ u] } := (sb.2 _ (Nat.ne_of_gt hel)).trans hT
    have rv : Vals [V.int (i : Nat), V.str ⟨#[c]⟩] [Value.int i tk, Value.str ⟨#[c]⟩ u] := .cons ⟨tk, rfl⟩ (.cons ⟨u, rfl⟩ .nil)
    have new : ObjOk X.prog X.w (upd H s.heap.objs.size (.tup [.int (i : Nat), .str ⟨#[c]⟩])) h'' s.heap.objs.size (.tup [.int (i : Nat), .str ⟨#[c]⟩]) :=
      ⟨by show 2 ≤ sizeLine; decide, [.int i tk, .str ⟨#[c]⟩ u], rv, ⟨_, hT2, rfl, _, rfl⟩⟩
    have I1 : Inv X pins σ (upd H s.heap.objs.size (.tup [.int (i : Nat), .str ⟨#[c]⟩])) { s with heap := h'', toks := tk + 1 } :=
      I.turnedNew (ch := [e, it]) (fun b ob hb q => (sb.2 b (fun z => hb (by simp [z]))).trans (hk b ob (fun z => hb (by simp [z])) (fun z => hb (by simp [z])) q)) hf (Nat.le_refl _) new
    refine ⟨.ref s.heap.objs.size, _, I1, rfl, ⟨_, c, rfl, I.hok.fresh (Nat.le_refl _), rfl, hcx⟩, ⟨⟨.str ⟨#[c]⟩ u, ?_⟩, ?_, hne⟩, fun b hb => ?_⟩
    · have e1 : ((i + 1 : Nat) : Int) = (i : Int) + 1 := by omega
      rw [e1]; exact he'
    · obtain ⟨o, q, r⟩ := hst
      exact ⟨o, (sb.2 it (Ne.symm hne)).trans q, r⟩
    · have hb' : b < s.heap.objs.size := by
        have e' : b = e ∨ b = it := by simpa using hb
        rcases e' with z | z
        · rw [z]; exact hel
        · rw [z]; exact hil
      rw [upd_ne (Nat.ne_of_lt hb')]
      exact (hf b hb).1
  done := by
    intro X hP hw hK hc i pins s σ H E I hf st hg
    subst hP hw hK
    obtain ⟨⟨old, he⟩, hit, hne⟩ := st
    obtain ⟨f0, f1, f2, f3, f4, f5⟩ := hf it (by simp)
    have D0 := Draws.text (prog := X.prog) (w := X.w) (A := X.A.in1) (I.ok.hd hc) it x t
    have hx : x.cps[i]? = none := Array.getElem?_eq_none hg
    have D : Draws X.prog X.w X.A.in1 it [it] i (fun _ _ => True) (fun j h => h.IsStrIter it (strIterType x) x t j ∧ i ≤ j) :=
      ⟨fun j h st => D0.live j h st.1, fun j h h' st hk => ⟨D0.frame j h h' st.1 hk, st.2⟩, fun j s Q E hj st hQ => absurd st.2 (by omega), fun s Q E st hE => by
        have st' := st.1
        cases ha : x.cps.all (· < 128)
        · simp only [strIterType, ha, Bool.false_eq_true, if_false] at st'
          exact wpAny_nextOf_wide_end (I.ok.hd hc) st' hx hE
        · simp only [strIterType, ha, if_true] at st'
          exact wpAny_nextOf_ascii_end (I.ok.hd hc) st' hx hE⟩
    exact wpAny_pyNext_enum_endD D he ⟨hit, Nat.le_refl _⟩ fun h' eb => ⟨rfl, I.turned (t' := s.toks) (fun b o hb q => eb b o hb q) f0 f1 f3 f4 f5⟩
  self := fun A i s Q E st h => let ⟨⟨_, he⟩, _⟩ := st; wpAny_pyIter_enum he h
def iEnumS (ta : TA) : TI := fun σ H R => ta σ H fun vs H1 => ∃ x, vs = [.str x] ∧ R (Ites x) H1
theorem pi_enumS {X : Cx} {e : Expr} {ta : TA} {p pos tpos : Pos} {elts : List Expr} {kk : Nat} (hg : Gl X "enumerate") (hm : X.mg "enumerate" = none) (ha : PA X [e] ta) (hs : starEach [e] X.env = [(false, eval e X.env)] := by rfl) :
    PI X (.Tuple elts kk tpos) (.Call (.Name "enumerate" p) [e] [] pos) (iEnumS ta) := by
  refine ⟨fun pins s σ H R I h => ?_⟩
  refine Call_ (ld_blt I hg hm boot_enumerate (PyProof.Rows.callWith_type1 (thn (ha.run pos pins s σ H _ I h) fun us s1 ⟨vs, H1, I1, r1, q1⟩ => ?_) hs rfl))
  obtain ⟨x, ex, q⟩ := q1
  subst ex
  cases r1 with
  | cons r rr =>
    cases rr
    obtain ⟨t, rfl⟩ := r
    refine enum_begins1 (begins_text x t) trivial fun h' he hit hsz hk => wpAny_pyIter_enum he ?_
    have I2 : Inv X pins σ H1 { s1 with heap := h' } := I1.kept (t' := s1.toks) hk
    refine ⟨s1.heap.objs.size + 1, [s1.heap.objs.size + 1, s1.heap.objs.size], _, _, H1, rfl, I2, turn_enumS x t (s1.heap.objs.size + 1) s1.heap.objs.size, ⟨⟨.none, he⟩, ⟨_, hit, rfl, rfl⟩, Nat.succ_ne_self _⟩, fun b hb => ?_, q⟩
    have e' : b = s1.heap.objs.size + 1 ∨ b = s1.heap.objs.size := by simpa using hb
    have hle : s1.heap.objs.size ≤ b := by
      rcases e' with z | z
      · rw [z]; exact Nat.le_add_right _ _
      · rw [z]; exact Nat.le_refl _
    exact I1.fpOk hle (I1.hok.fresh hle)
theorem qi_enumT {X : Cx} (K : PySem.W.Frag) {e : Expr} {ta : TA} {p pos tpos : Pos} {elts : List Expr} {kk : Nat} (hg : Gl X "enumerate") (hm : X.mg "enumerate" = none) (ha : PA X [e] ta) (hs : starEach [e] X.env = [(false, eval e X.env)] := by rfl) (hK : X.K = K := by rfl) :
    PI X (.Tuple elts kk tpos) (.Call (.Name "enumerate" p) [e] [] pos) (iEnumT K ta) := hK ▸ pi_enumT hg hm ha hs
def REnumT (K : PySem.W.Frag) (vs : List V) (H : Hp) (R : It → Prop) : Prop := ∃ a xs, vs = [.ref a] ∧ SqT K H a xs ∧ R (Itet K a)
def REnumS (vs : List V) (R : It → Prop) : Prop := ∃ x, vs = [.str x] ∧ R (Ites x)
section
variable {K : PySem.W.Frag} {H : Hp} {σ : St} {t : TA} {a : Addr} {xs : List V} {x : Str}
theorem w_iEnumT {R : It → Hp → Prop} (h : t σ H fun vs H1 => REnumT K vs H1 fun J => R J H1) : iEnumT K t σ H R := h
theorem w_enumT {R : It → Prop} (hs : SqT K H a xs) (h : R (Itet K a)) : REnumT K [.ref a] H R := ⟨a, xs, rfl, hs, h⟩
theorem w_iEnumS {R : It → Hp → Prop} (h : t σ H fun vs H1 => REnumS vs fun J => R J H1) : iEnumS t σ H R := h
theorem w_enumS {R : It → Prop} (h : R (Ites x)) : REnumS [.str x] R := ⟨x, rfl, h⟩
theorem walk_enumT : Walk (Itet K a) xs.length (fun H => SqT K H a xs) (YPair (fun i => some (.int (i : Nat))) (fun i => xs[i]?)) := by
  refine ⟨fun i _ hi q => ⟨xs, xs[i], q, by simp [hi]⟩, fun _ q => ⟨xs, q, Nat.le_refl _⟩, fun i H v H' _ q y => ?_⟩
  obtain ⟨T, x, h1, h2, h3, h4⟩ := y
  exact ⟨T, .int (i : Nat), x, h1, h2, h3, rfl, h4 xs q⟩
theorem walk_enumS : Walk (Ites x) x.cps.size (fun _ => True) (YPair (fun i => some (.int (i : Nat))) (fun i => (x.cps[i]?).map fun c => .str ⟨#[c]⟩)) := by
  refine ⟨fun i _ hi _ => hi, fun _ _ => Nat.le_refl _, fun i H v H' _ _ y => ?_⟩
  obtain ⟨T, c, h1, h2, h3, h4⟩ := y
  exact ⟨T, .int (i : Nat), .str ⟨#[c]⟩, h1, h2, h3, rfl, by simp [h4]⟩
theorem for_walk {J : It} {n : Nat} {G : Hp → Prop} {Y : Nat → Hp → V → Hp → Prop} (w : Walk J n G Y) {g : TG} {tb : TS} {D : Ends} (Pv : Nat → St → Hp → Prop) (h0 : Pv 0 σ H) (hG : ∀ i σ H, i ≤ n → Pv i σ H → G H)
    (hs : ∀ i x σ H H', i < n → Pv i σ H → Y i H x H' → g x σ H' fun σ2 H2 => tb { D with nx := Pv (i + 1), ct := Pv (i + 1), bk := D.nx } σ2 H2) (hd : ∀ σ H, Pv n σ H → D.nx σ H) : RFor g tb D σ J H := for_it w Pv h0 hG hs hd
end
end K1
namespace K1
open PySem PySem.Spec L2
open PyProof.Rows hiding St
theorem map_get {α β : Type} {f : α → β} {xs : List α} {i : Nat} {y : β} (h : (xs.map f)[i]? = some y) : ∃ x, xs[i]? = some x ∧ y = f x := by
  rw [List.getElem?_map] at h
  cases e : xs[i]? with
  | none => rw [e] at h; cases h
  | some x => rw [e] at h; exact ⟨x, rfl, (Option.some.inj h).symm⟩
theorem take_snoc {α : Type} {xs : List α} {i : Nat} {x : α} (h : xs[i]? = some x) : xs.take (i + 1) = xs.take i ++ [x] := by rw [List.take_succ, h]; rfl
theorem not_take {α : Type} {xs : List α} {i : Nat} {x : α} (hn : xs.Nodup) (h : xs[i]? = some x) : x ∉ xs.take i := fun z => by
  obtain ⟨hi, e⟩ := List.getElem?_eq_some_iff.mp h
  obtain ⟨j, hj, ej⟩ := List.mem_iff_getElem.mp z
  rw [List.length_take] at hj
  rw [List.getElem_take] at ej
  exact List.pairwise_iff_getElem.mp hn j i (by omega) hi (by omega) (ej.trans e.symm)
section
variable {K : PySem.W.Frag} {H0 H : Hp} {a : Addr} {r : List (List Str)} {xs : List Str} {g : TG} {tb : TS} {D : Ends} {σ : St}
theorem for_row (Pv : Nat → St → Hp → Prop) (hA : RowAt K H0 a r) (hG : ∀ i σ H, Pv i σ H → Same H0 H) (h0 : Pv 0 σ H)
    (hs : ∀ i q dr σ H, r[i]? = some dr → SqT K H q (dr.map V.str) → Pv i σ H → g (.ref q) σ H fun σ2 H2 => tb { D with nx := Pv (i + 1), ct := Pv (i + 1), bk := D.nx } σ2 H2)
    (hd : ∀ σ H, Pv r.length σ H → D.nx σ H) : RFor g tb D σ (Itt K a) H := by
  obtain ⟨ds, h1, h2⟩ := hA
  have hl : ds.length = r.length := paired_len h2
  refine for_tup (xs := ds.map V.ref) Pv h0 (fun i σ H _ p => Same.sqt (hG i σ H p) h1) ?_ fun σ H p => hd σ H (by rw [List.length_map, hl] at p; exact p)
  intro i x σ H hx p
  obtain ⟨q, hq, rfl⟩ := map_get hx
  obtain ⟨hi, _⟩ := List.getElem?_eq_some_iff.mp hq
  have hr : r[i]? = some (r[i]'(by omega)) := List.getElem?_eq_getElem _
  obtain ⟨q', e1, e2⟩ := paired_get h2 hr
  rw [hq] at e1; cases e1
  exact hs i q _ σ H hr (Same.sqt (hG i σ H p) e2) p
theorem for_txt (Pv : Nat → St → Hp → Prop) (hG : ∀ i σ H, Pv i σ H → SqT K H a (xs.map V.str)) (h0 : Pv 0 σ H)
    (hs : ∀ i x σ H, xs[i]? = some x → Pv i σ H → g (.str x) σ H fun σ2 H2 => tb { D with nx := Pv (i + 1), ct := Pv (i + 1), bk := D.nx } σ2 H2)
    (hd : ∀ σ H, Pv xs.length σ H → D.nx σ H) : RFor g tb D σ (Itt K a) H := by
  refine for_tup (xs := xs.map V.str) Pv h0 (fun i σ H _ p => hG i σ H p) ?_ fun σ H p => hd σ H (by rw [List.length_map] at p; exact p)
  intro i x σ H hx p
  obtain ⟨q, hq, rfl⟩ := map_get hx
  exact hs i q σ H hq p
theorem for_txtL (Pv : Nat → St → Hp → Prop) (hG : ∀ i σ H, Pv i σ H → SqL K H a (xs.map V.str)) (h0 : Pv 0 σ H)
    (hs : ∀ i x σ H, xs[i]? = some x → Pv i σ H → g (.str x) σ H fun σ2 H2 => tb { D with nx := Pv (i + 1), ct := Pv (i + 1), bk := D.nx } σ2 H2)
    (hd : ∀ σ H, Pv xs.length σ H → D.nx σ H) : RFor g tb D σ (Itl K a) H := by
  refine for_list (xs := xs.map V.str) Pv h0 (fun i σ H _ p => hG i σ H p) ?_ fun σ H p => hd σ H (by rw [List.length_map] at p; exact p)
  intro i x σ H hx p
  obtain ⟨q, hq, rfl⟩ := map_get hx
  exact hs i q σ H hq p
theorem g_pair {i1 i2 : Nat} {T : Addr} {x y : V} {R : St → Hp → Prop} (h : R ((σ.set i1 (some x)).set i2 (some y)) (upd H T (.tup [x, y]))) : gTup K 2 (gCons (gName i1) (gCons (gName i2) gNil)) (.ref T) σ (upd H T (.tup [x, y])) R :=
  ⟨T, [x, y], rfl, .inl (.inl upd_same), rfl, x, [y], rfl, y, [], rfl, rfl, h⟩
end
section
variable {mg : Str → Option Value} {K : PySem.W.Frag} (T : TX K mg) {H : Hp} {p : Addr} {N : NetD} {Q : VK} {k : Str}
theorem NetAt.knot {ka : Addr} (h : KnotsAt K H ka N) (hk : k ∈ N.names) : ∃ (kv : Str → Addr) (f t : Addr), H ka = some (.dK (mapK N.names fun k => .ref (kv k))) ∧ SqT K H (kv k) [.ref f, .ref t] ∧ RowAt K H f (N.fr k) ∧ RowAt K H t (N.tn k) := by
  obtain ⟨kv, h1, h2⟩ := h
  obtain ⟨f, t, h3, h4, h5⟩ := h2 k hk
  exact ⟨kv, f, t, h1, h3, h4, h5⟩
end
theorem RowAt.sq {K : PySem.W.Frag} {H : Hp} {a : Addr} {r : List (List Str)} (h : RowAt K H a r) : ∃ xs, SqT K H a xs ∧ xs.length = r.length := by
  obtain ⟨ds, h1, h2⟩ := h
  exact ⟨_, h1, by rw [List.length_map]; exact paired_len h2⟩
end K1
namespace K1
open PySem PySem.Spec L2
open PyProof.Rows hiding St
local macro_rules | `(tactic| walk_at "hp") => `(tactic| first | assumption | exact upd_same | (refine' Same.to ?wse ?wsh; (case wse => assumption); (case wsh => walk_at "hp")) | ((rw [upd_ne (by first | assumption | (apply Ne.symm; assumption))]); walk_at "hp"))
local macro_rules | `(tactic| walk_at "sq") => `(tactic| first | assumption | exact sqL (by walk_at "hp") | exact sqT (by walk_at "hp") | (refine' Same.seqTo ?wse ?wsh; (case wse => assumption); (case wsh => walk_at "sq")) | (refine' Same.sqtTo ?wse ?wsh; (case wse => assumption); (case wsh => walk_at "sq")))
local macro_rules | `(tactic| walk_at "w1") => `(tactic| first
  | with_reducible refine w_asg ?_
  | with_reducible refine w_c ?_
  | with_reducible refine w_gname ?_
  | with_reducible refine w_if ?_
  | with_reducible refine w_ifs ?_
  | with_reducible refine w_test ?_
  | with_reducible refine w_tB ?_
  | with_reducible refine w_bl ?_
  | with_reducible refine w_op ?_
  | with_reducible refine w_nil ?_
  | with_reducible refine w_cons ?_
  | with_reducible refine w_cb ?_
  | with_reducible refine w_I0 ?_
  | with_reducible refine w_lst ?_
  | with_reducible refine w_tup ?_
  | with_reducible refine w_sl ?_
  | with_reducible refine w_noPart ?_
  | with_reducible refine w_part ?_
  | with_reducible refine w_int ?_
  | with_reducible refine w_par ?_
  | with_reducible refine w_two ?_
  | with_reducible refine w_par3 ?_
  | with_reducible refine w_three ?_
  | with_reducible refine w_ret ?_
  | with_reducible refine w_drop ?_
  | with_reducible refine w_chain ?_
  | with_reducible refine w_and ?_
  | with_reducible refine w_or ?_
  | with_reducible refine w_not ?_
  | with_reducible refine w_notV ?_
  | with_reducible refine w_andV ?_
  | with_reducible refine w_orV ?_
  | with_reducible refine w_int1 ?_
  | with_reducible refine w_true ?_
  | with_reducible refine w_false ?_
  | with_reducible refine w_for ?_
  | with_reducible refine w_rng1 ?_
  | with_reducible refine w_rng2 ?_
  | with_reducible refine w_iList ?_
  | with_reducible refine w_iTup ?_
  | with_reducible refine w_dget ?_
  | with_reducible refine w_din ?_
  | with_reducible refine w_dnotin ?_
  | with_reducible refine w_dput ?_
  | with_reducible refine w_dget2 ?_
  | with_reducible refine w_fld ?_
  | with_reducible refine w_dnew ?_
  | with_reducible refine w_lc ?_
  | with_reducible refine w_dc ?_
  | with_reducible refine w_iStr ?_
  | with_reducible refine w_str ?_
  | with_reducible refine w_iEnum ?_
  | with_reducible refine w_iZip ?_
  | with_reducible refine w_yes ?_
  | with_reducible refine w_gtup ?_
  | with_reducible refine w_gcons ?_
  | with_reducible refine w_rcons ?_
  | with_reducible refine w_gnil ?_
  | with_reducible refine w_leS ?_
  | with_reducible refine w_isN ?_
  | with_reducible refine w_notN ?_
  | with_reducible refine w_call ?_
  | with_reducible refine w_meth ?_
  | with_reducible refine w_bm ?_
  | with_reducible refine w_bm0 ?_
  | with_reducible refine isi_int ?_
  | with_reducible refine isi_bl_int ?_
  | with_reducible refine isi_int_bl ?_
  | with_reducible refine isi_bl ?_
  | with_reducible refine isi_str ?_
  | with_reducible refine isi_non_dict ?_
  | with_reducible refine isi_int_dict ?_
  | with_reducible refine w_ntrue ?_
  | with_reducible refine w_nfalse ?_
  | with_reducible refine w_wt ?_
  | with_reducible refine w_starD ?_
  | with_reducible refine w_starT ?_
  | with_reducible refine w_listVals ?_
  | with_reducible refine w_iEnumT ?_
  | with_reducible refine w_iEnumS ?_
  | with_reducible refine w_enumS ?_
  | with_reducible refine w_frz ?_
  | with_reducible refine w_iItems ?_
  | with_reducible refine w_iKeys ?_
  | with_reducible refine w_iVals ?_
  | with_reducible refine w_strS ?_
  | with_reducible refine w_daug ?_
  | with_reducible refine w_rAdd ?_
  | with_reducible refine w_sfld ?_
  | ((with_reducible refine' w_var ?wsd ?_); (case wsd => first | rfl | assumption))
  | ((with_reducible refine' w_eq ?wsd ?_); (case wsd => rfl))
  | ((with_reducible refine' w_ne ?wsd ?_); (case wsd => rfl))
  | ((with_reducible refine' w_lenL ?wsd ?_); (case wsd => walk_at "sq"))
  | ((with_reducible refine' w_lenT ?wsd ?_); (case wsd => walk_at "sq"))
  | ((with_reducible refine' w_itL ?wsd ?_); (case wsd => walk_at "sq"))
  | ((with_reducible refine' w_itT ?wsd ?_); (case wsd => walk_at "sq"))
  | ((with_reducible refine' w_rng1v ?wsd ?_); (case wsd => omega))
  | ((with_reducible refine' w_rng2v ?wsd ?_); (case wsd => omega))
  | ((with_reducible refine' w_I ?wsd ?_); (case wsd => walk_at "side"))
  | ((with_reducible refine' w_dtrue ?wsd ?_); (case wsd => first | assumption | omega | rfl | decide))
  | ((with_reducible refine' w_dfalse ?wsd ?_); (case wsd => first | assumption | omega | decide))
  | ((with_reducible refine' w_ndtrue ?wsd ?_); (case wsd => first | assumption | omega | rfl | decide))
  | ((with_reducible refine' w_ndfalse ?wsd ?_); (case wsd => first | assumption | omega | decide))
  | ((with_reducible refine' w_stD ?wsd ?_); (case wsd => walk_at "hp"))
  | ((with_reducible refine' w_stT ?wsd ?_); (case wsd => walk_at "sq"))
  | ((with_reducible refine' w_stL ?wsd ?_); (case wsd => walk_at "sq"))
  | ((with_reducible refine' w_isD ?wsd ?_); (case wsd => walk_at "hp"))
  | ((with_reducible refine' isi_tup ?wsd ?_); (case wsd => walk_at "sq"))
  | ((with_reducible refine' isi_dict ?wsd ?_); (case wsd => walk_at "hp"))
  | ((with_reducible refine' w_lenDv ?wsd ?_); (case wsd => walk_at "hp"))
  | ((with_reducible refine' w_enum ?wsd ?_); (case wsd => walk_at "sq"))
  | ((with_reducible refine' w_enumT ?wsd ?_); (case wsd => walk_at "sq"))
  | ((with_reducible refine' w_tyL ?wsd ?_); (case wsd => walk_at "sq")))
local macro_rules | `(tactic| walk_at "side") => `(tactic| first | omega | decide | (constructor <;> omega) | (constructor <;> decide) | (simp only [List.length_map, List.length_append, List.length_cons, List.length_nil, CDivN, CMul, CPow]; first | omega | decide | (constructor <;> omega)))
local macro_rules | `(tactic| walk_at "w") => `(tactic| repeat (walk_at "w1"))
def spNetStart (K : PySem.W.Frag) : Sp := fun vs H Q _ => ∃ (p : Addr) (N : NetD), vs = [.ref p] ∧ NetAt K H p N ∧ N.Ok ∧ ∀ d H', Same H H' → H d = none → H' d = some (DI N.names fun _ => 0) → Q (.ref d) H'
def spNetFront (K : PySem.W.Frag) : Sp := fun vs H Q _ => ∃ (p : Addr) (N : NetD) (k : Str), vs = [.ref p, .str k] ∧ NetAt K H p N ∧ k ∈ N.names ∧ Q (.int (N.fr k).length) H
def spNetPeriod (K : PySem.W.Frag) : Sp := fun vs H Q _ => ∃ (p : Addr) (N : NetD) (k : Str), vs = [.ref p, .str k] ∧ NetAt K H p N ∧ k ∈ N.names ∧ Q (.int (N.tn k).length) H
def spNetTurned (K : PySem.W.Frag) : Sp := fun vs H Q _ => ∃ (p : Addr) (N : NetD) (k : Str), vs = [.ref p, .str k] ∧ NetAt K H p N ∧ N.Ok ∧ k ∈ N.names ∧ ∀ d ks f H', Same H H' → H d = none → H' d = some (DI ks f) → Zr ks f → (∀ x, f x = (NetD.cr x (N.tn k) : Int)) → Q (.ref d) H'
def spNetPlaceBehind (K : PySem.W.Frag) : Sp := fun vs H Q _ => ∃ (p : Addr) (N : NetD) (k : Str) (pl m : Nat), vs = [.ref p, .str k, .int pl, .int m] ∧ NetAt K H p N ∧ N.Ok ∧ k ∈ N.names ∧ pl < N.len k ∧ Q (.int (N.plc k pl m)) H
abbrev N_Net_start : List Str := ["self", "name"]
theorem sc_Net_start : FnScope N_Net_start ["self"] (defScope s_Net_start) := ⟨rfl, rfl, rfl, by decide +kernel, rfl, by decide +kernel, by decide +kernel⟩
abbrev N_Net_front : List Str := ["self", "name"]
theorem sc_Net_front : FnScope N_Net_front ["self", "name"] (defScope s_Net_front) := ⟨rfl, rfl, rfl, by decide +kernel, rfl, by decide +kernel, by decide +kernel⟩
abbrev N_Net_period : List Str := ["self", "name"]
theorem sc_Net_period : FnScope N_Net_period ["self", "name"] (defScope s_Net_period) := ⟨rfl, rfl, rfl, by decide +kernel, rfl, by decide +kernel, by decide +kernel⟩
abbrev N_Net_turned : List Str := ["self", "name", "found", "drop", "target"]
theorem sc_Net_turned : FnScope N_Net_turned ["self", "name"] (defScope s_Net_turned) := ⟨rfl, rfl, rfl, by decide +kernel, rfl, by decide +kernel, by decide +kernel⟩
abbrev N_Net_place_behind : List Str := ["self", "name", "place", "many", "late", "front", "period"]
theorem sc_Net_place_behind : FnScope N_Net_place_behind ["self", "name", "place", "many"] (defScope s_Net_place_behind) := ⟨rfl, rfl, rfl, by decide +kernel, rfl, by decide +kernel, by decide +kernel⟩
section
variable {P : Program} {w : World} {K : PySem.W.Frag} {mg : Str → Option Value} {base : Heap}
theorem ok_Net_start (T : TX K mg) : Fok P w K mg base CX0 1 (He.ma K (He.ga K "Net") "start") ["self"] [] (spNetStart K) := by
  obtain ⟨fd, F⟩ := T.fn_Net_start
  refine ⟨⟨fd, [], ?_, F.bindsN fun _ _ _ _ _ _ us hl => match us, hl with | [_], _ => rfl, .nil⟩, F.kp⟩
  refine F.ok sc_Net_start (fun vs H Q E h => ?_) (fun cdv A outer s H vs Q E hr h => ?_)
  · obtain ⟨_, _, rfl, _⟩ := h
    rfl
  obtain ⟨p, N, rfl, ⟨dk, di, to, ln, dx, hN⟩, hok, k⟩ := h
  have hu := hu_of hr
  refine ssx_nox ?_
  refine ssx_cons (ps_ret (pe_dc (own := [("name", 1)]) rfl sc_Net_start.nd (qi_list K (q_fld K (pv 0) rfl)) (blkOk_by (N := N_Net_start) (sc := defScope s_Net_start) (by decide +kernel)) (fun _ _ _ _ _ => (pg_name (i := 1) sc_Net_start.nd rfl (Or.inl rfl))) (fun _ _ _ _ _ => pts_nil) (fun _ _ _ _ _ => (pv 1)) (fun _ _ _ _ _ => pe_int))) ?_
  walk_at "w"
  refine w_nnames T hN ?_
  refine w_itL (sqL hN.nm) ?_
  refine rdcV (walk_list (xs := N.names.map V.str)) N.names (fun _ => .int 0) (by rw [List.length_map]) (by rw [List.length_map]; have := hok.len; omega) hok.nodup (fun H' s => s.seq (sqL hN.nm)) ?_ ?_
  · rintro i x H1 _ y hi hy s1 ⟨rfl, hx⟩ KT KF hKT
    obtain ⟨y', e1, rfl⟩ := map_get hx
    rw [hy] at e1; cases e1
    walk_at "w"
    refine ⟨rfl, ?_⟩
    walk_at "w"
    exact hKT _ (Same.refl _)
  · intro D H1 hD s1 h1
    exact k D H1 s1 hD h1
theorem ok_Net_front (T : TX K mg) : Fok P w K mg base CX0 1 (He.ma K (He.ga K "Net") "front") ["self", "name"] [] (spNetFront K) := by
  obtain ⟨fd, F⟩ := T.fn_Net_front
  refine ⟨⟨fd, [], ?_, F.bindsN fun _ _ _ _ _ _ us hl => match us, hl with | [_, _], _ => rfl, .nil⟩, F.kp⟩
  refine F.ok sc_Net_front (fun vs H Q E h => ?_) (fun cdv A outer s H vs Q E hr h => ?_)
  · obtain ⟨_, _, _, rfl, _⟩ := h
    rfl
  obtain ⟨p, N, kn, rfl, ⟨dk, di, to, ln, dx, hN⟩, hk, k⟩ := h
  have hu := hu_of hr
  refine ssx_nox ?_
  refine ssx_cons (ps_ret (pe_callB (q_len K) rfl T.f_len bb_len (pa_cons (pe_ix (q_ixT K) (pe_dget hu (q_fld K (pv 0) rfl) (pv 1) (fun _ _ => rfl)) pe_int (fun _ _ => rfl)) pa_nil))) ?_
  obtain ⟨kv, f, t, h1, h2, h3, h4⟩ := NetAt.knot hN.kn hk
  obtain ⟨xs, h5, h6⟩ := h3.sq
  walk_at "w"
  refine w_nknots T hN ?_
  walk_at "w"
  refine w_getK h1 hk ?_
  walk_at "w"
  refine w_ixT (v := .ref f) h2 rfl ?_
  walk_at "w"
  rw [h6]
  exact k
theorem ok_Net_period (T : TX K mg) : Fok P w K mg base CX0 1 (He.ma K (He.ga K "Net") "period") ["self", "name"] [] (spNetPeriod K) := by
  obtain ⟨fd, F⟩ := T.fn_Net_period
  refine ⟨⟨fd, [], ?_, F.bindsN fun _ _ _ _ _ _ us hl => match us, hl with | [_, _], _ => rfl, .nil⟩, F.kp⟩
  refine F.ok sc_Net_period (fun vs H Q E h => ?_) (fun cdv A outer s H vs Q E hr h => ?_)
  · obtain ⟨_, _, _, rfl, _⟩ := h
    rfl
  obtain ⟨p, N, kn, rfl, ⟨dk, di, to, ln, dx, hN⟩, hk, k⟩ := h
  have hu := hu_of hr
  refine ssx_nox ?_
  refine ssx_cons (ps_ret (pe_callB (q_len K) rfl T.f_len bb_len (pa_cons (pe_ix (q_ixT K) (pe_dget hu (q_fld K (pv 0) rfl) (pv 1) (fun _ _ => rfl)) pe_int (fun _ _ => rfl)) pa_nil))) ?_
  obtain ⟨kv, f, t, h1, h2, h3, h4⟩ := NetAt.knot hN.kn hk
  obtain ⟨xs, h5, h6⟩ := h4.sq
  walk_at "w"
  refine w_nknots T hN ?_
  walk_at "w"
  refine w_getK h1 hk ?_
  walk_at "w"
  refine w_ixT (v := .ref t) h2 rfl ?_
  walk_at "w"
  rw [h6]
  exact k
theorem ok_Net_turned (T : TX K mg) : Fok P w K mg base CX0 1 (He.ma K (He.ga K "Net") "turned") ["self", "name"] [] (spNetTurned K) := by
  obtain ⟨fd, F⟩ := T.fn_Net_turned
  refine ⟨⟨fd, [], ?_, F.bindsN fun _ _ _ _ _ _ us hl => match us, hl with | [_, _], _ => rfl, .nil⟩, F.kp⟩
  refine F.ok sc_Net_turned (fun vs H Q E h => ?_) (fun cdv A outer s H vs Q E hr h => ?_)
  · obtain ⟨_, _, _, rfl, _⟩ := h
    rfl
  obtain ⟨p, N, kn, rfl, ⟨dk, di, to, ln, dx, hN⟩, hok, hk, k⟩ := h
  have hu := hu_of hr
  refine ssx_nox ?_
  refine ssx_cons (ps_set (i := 2) sc_Net_turned.nd rfl (Or.inl rfl) pe_dnewK) ?_
  walk_at "w"
  refine w_new fun d H1 hd s1 h1 => ?_
  walk_at "w"
  have N1 := hN.same s1
  obtain ⟨kv, f, t, k1, k2, k3, k4⟩ := NetAt.knot hN.kn hk
  obtain ⟨xs, k5, _⟩ := k4.sq
  have htl := hok.tl kn hk
  refine ssx_cons (ps_for PassesOwn.never rfl (qi_tup K (pe_ix (q_ixT K) (pe_dget hu (q_fld K (pv 0) rfl) (pv 1) (fun _ _ => rfl)) pe_int (fun _ _ => rfl))) (pg_name (i := 3) sc_Net_turned.nd rfl (Or.inl rfl)) SSX.ps) ?_
  walk_at "w"
  refine w_nknots T N1 ?_
  walk_at "w"
  refine w_getK (s1 _ _ k1) hk ?_
  walk_at "w"
  refine w_ixT (v := .ref t) (Same.sqt s1 k2) rfl ?_
  refine w_itT (Same.sqt s1 k5) ?_
  refine for_row (fun i σ H2 => ∃ ks g o3 o4, σ = [some (.ref p), some (.str kn), some (.ref d), o3, o4] ∧ Same H H2 ∧ H2 d = some (DI ks g) ∧ Zr ks g ∧ (∀ x, g x = (NetD.cr x ((N.tn kn).take i) : Int)) ∧ ks.length ≤ 2 * i) k4 ?_ ?_ ?_ ?_
  · rintro i σ H2 ⟨_, _, _, _, _, s2, _⟩
    exact s2
  · exact ⟨[], fun _ => 0, _, _, rfl, s1, h1, fun _ _ => rfl, fun x => rfl, by simp⟩
  · rintro i q dr σ H2 hdr hq ⟨ks, g, o3, o4, rfl, s2, h2, hz, hg, hl⟩
    walk_at "w"
    obtain ⟨hi, _⟩ := List.getElem?_eq_some_iff.mp hdr
    have hdl := (hok.dr kn hk dr (List.mem_append.mpr (.inr (List.mem_of_getElem? hdr)))).1
    refine ssx_cons (ps_for PassesOwn.never rfl (qi_tup K (pv 3)) (pg_name (i := 4) sc_Net_turned.nd rfl (Or.inl rfl)) SSX.ps) ?_
    walk_at "w"
    refine for_txt (xs := dr) (fun j σ H3 => ∃ ks g o4, σ = [some (.ref p), some (.str kn), some (.ref d), some (.ref q), o4] ∧ Same H H3 ∧ SqT K H3 q (dr.map V.str) ∧ H3 d = some (DI ks g) ∧ Zr ks g ∧ (∀ x, g x = (NetD.cr x ((N.tn kn).take i) : Int) + ((dr.take j).count x : Int)) ∧ ks.length ≤ 2 * i + j) ?_ ?_ ?_ ?_
    · rintro j σ H3 ⟨_, _, _, _, _, hq3, _⟩
      exact hq3
    · exact ⟨ks, g, _, rfl, s2, hq, h2, hz, fun x => by rw [hg]; simp, by omega⟩
    · rintro j y σ H3 hy ⟨ks, g, o4, rfl, s3, hq3, h3, hz, hg, hl⟩
      obtain ⟨hj, _⟩ := List.getElem?_eq_some_iff.mp hy
      walk_at "w"
      refine ssx_cons (ps_dput hu (pv 2) (pv 4) (pe_op op_add (pe_dget2 hu (pv 2) (pv 4) pe_int ⟨rfl, rfl, rfl, rfl⟩) pe_int) rfl) ?_
      walk_at "w"
      refine w_getOI h3 hz ?_
      walk_at "w"
      refine w_putI h3 (by omega) ?_
      refine ssx_nil ⟨_, _, _, rfl, Same.mut s3 hd, sqT_upd hq3 h3, upd_same, hz.put _ _, fun x => ?_, by have := @ins_len ks y; omega⟩
      rw [take_snoc hy, List.count_append]
      by_cases e : x = y
      · subst e; rw [show up g x (g x + 1) x = g x + 1 from NetD.up_same, hg]; simp; omega
      · rw [show up g y (g y + 1) x = g x from NetD.up_ne e, hg]; simp [List.count_singleton, Ne.symm e]
    · rintro σ H3 ⟨ks, g, o4, rfl, s3, hq3, h3, hz, hg, hl⟩
      refine ssx_nil ⟨ks, g, _, _, rfl, s3, h3, hz, fun x => ?_, by omega⟩
      rw [hg, take_snoc hdr, NetD.cr_append, List.take_length]
      simp [NetD.cr]
  · rintro σ H2 ⟨ks, g, o3, o4, rfl, s2, h2, hz, hg, hl⟩
    refine ssx_cons (ps_ret (pv 2)) ?_
    walk_at "w"
    rw [List.take_length] at hg
    exact k d ks g H2 s2 hd h2 hz hg
theorem ok_Net_place_behind (T : TX K mg) : Fok P w K mg base CX0 2 (He.ma K (He.ga K "Net") "place_behind") ["self", "name", "place", "many"] [] (spNetPlaceBehind K) := by
  obtain ⟨fd, F⟩ := T.fn_Net_place_behind
  refine ⟨⟨fd, [], ?_, F.bindsN fun _ _ _ _ _ _ us hl => match us, hl with | [_, _, _, _], _ => rfl, .nil⟩, F.kp⟩
  refine F.ok sc_Net_place_behind (fun vs H Q E h => ?_) (fun cdv A outer s H vs Q E hr h => ?_)
  · obtain ⟨_, _, _, _, _, rfl, _⟩ := h
    rfl
  obtain ⟨p, N, kn, pl, m, rfl, hA, hok, hk, hpl, k⟩ := h
  have hu := hu_of hr
  have O_Net_front := @ok_Net_front P w K mg base T
  have O_Net_period := @ok_Net_period P w K mg base T
  have ht := hok.tl kn hk
  have hl := hok.fl kn hk
  have hlen : N.len kn = (N.fr kn).length + (N.tn kn).length := by unfold NetD.len NetD.rows; rw [List.length_append]
  refine ssx_nox ?_
  refine ssx_cons (ps_set (i := 4) sc_Net_place_behind.nd rfl (Or.inl rfl) (pe_op op_add (pv 2) (pv 3))) ?_
  walk_at "w"
  refine ssx_cons (ps_par (i := 5) (j := 6) rfl sc_Net_place_behind.nd rfl rfl (by decide) rfl rfl (pa_cons (pe_methF (pv 0) T.c_Net T.m_Net_front O_Net_front (hr.mono (by decide)) pass0 (pa_cons (pv 1) pa_nil)) (pa_cons (pe_methF (pv 0) T.c_Net T.m_Net_period O_Net_period (hr.mono (by decide)) pass0 (pa_cons (pv 1) pa_nil)) pa_nil)) rfl) ?_
  obtain ⟨dk, di, to, ln, dx, hN⟩ := id hA
  walk_at "w"
  refine w_nmeth hN ?_
  walk_at "w"
  refine ⟨p, N, kn, rfl, hA, hk, ?_⟩
  walk_at "w"
  refine w_nmeth hN ?_
  walk_at "w"
  refine ⟨p, N, kn, rfl, hA, hk, ?_⟩
  walk_at "w"
  refine ssx_cons (ps_ret (pe_ifExp (pt_cmpR op_lt (pv 4) (pe_op op_add (pv 5) (pv 6)) (nomark _)) (pv 4) (pe_op op_add (pv 5) (pe_op op_modN (pe_op op_sub (pv 4) (pv 5)) (pv 6))))) ?_
  walk_at "w"
  rw [N.plc_eq ht.1 hpl] at k
  refine w_dcases (fun hlt => ?_) fun hlt => ?_
  · walk_at "w"
    rw [if_pos (by omega)] at k
    rw [show (pl : Int) + (m : Int) = ((pl + m : Nat) : Int) by omega]
    exact k
  · walk_at "w"
    rw [if_neg (by omega)] at k
    rw [show (pl : Int) + (m : Int) - ((N.fr kn).length : Int) = ((pl + m - (N.fr kn).length : Nat) : Int) by omega, fmod_nat]
    rw [show ((N.fr kn).length : Int) + (((pl + m - (N.fr kn).length) % (N.tn kn).length : Nat) : Int) = (((N.fr kn).length + (pl + m - (N.fr kn).length) % (N.tn kn).length : Nat) : Int) by omega]
    exact k
end
end K1
namespace K1
open PySem PySem.Spec L2
open PyProof.Rows hiding St
local macro_rules | `(tactic| walk_at "hp") => `(tactic| first | assumption | exact upd_same | (refine' Same.to ?wse ?wsh; (case wse => assumption); (case wsh => walk_at "hp")) | ((rw [upd_ne (by first | assumption | (apply Ne.symm; assumption))]); walk_at "hp"))
local macro_rules | `(tactic| walk_at "sq") => `(tactic| first | assumption | exact sqL (by walk_at "hp") | exact sqT (by walk_at "hp") | (refine' Same.seqTo ?wse ?wsh; (case wse => assumption); (case wsh => walk_at "sq")) | (refine' Same.sqtTo ?wse ?wsh; (case wse => assumption); (case wsh => walk_at "sq")))
local macro_rules | `(tactic| walk_at "w1") => `(tactic| first
  | with_reducible refine w_asg ?_
  | with_reducible refine w_c ?_
  | with_reducible refine w_gname ?_
  | with_reducible refine w_if ?_
  | with_reducible refine w_ifs ?_
  | with_reducible refine w_test ?_
  | with_reducible refine w_tB ?_
  | with_reducible refine w_bl ?_
  | with_reducible refine w_op ?_
  | with_reducible refine w_nil ?_
  | with_reducible refine w_cons ?_
  | with_reducible refine w_cb ?_
  | with_reducible refine w_I0 ?_
  | with_reducible refine w_lst ?_
  | with_reducible refine w_tup ?_
  | with_reducible refine w_sl ?_
  | with_reducible refine w_noPart ?_
  | with_reducible refine w_part ?_
  | with_reducible refine w_int ?_
  | with_reducible refine w_par ?_
  | with_reducible refine w_two ?_
  | with_reducible refine w_par3 ?_
  | with_reducible refine w_three ?_
  | with_reducible refine w_ret ?_
  | with_reducible refine w_drop ?_
  | with_reducible refine w_chain ?_
  | with_reducible refine w_and ?_
  | with_reducible refine w_or ?_
  | with_reducible refine w_not ?_
  | with_reducible refine w_notV ?_
  | with_reducible refine w_andV ?_
  | with_reducible refine w_orV ?_
  | with_reducible refine w_int1 ?_
  | with_reducible refine w_true ?_
  | with_reducible refine w_false ?_
  | with_reducible refine w_for ?_
  | with_reducible refine w_rng1 ?_
  | with_reducible refine w_rng2 ?_
  | with_reducible refine w_iList ?_
  | with_reducible refine w_iTup ?_
  | with_reducible refine w_dget ?_
  | with_reducible refine w_din ?_
  | with_reducible refine w_dnotin ?_
  | with_reducible refine w_dput ?_
  | with_reducible refine w_dget2 ?_
  | with_reducible refine w_fld ?_
  | with_reducible refine w_dnew ?_
  | with_reducible refine w_lc ?_
  | with_reducible refine w_dc ?_
  | with_reducible refine w_iStr ?_
  | with_reducible refine w_str ?_
  | with_reducible refine w_iEnum ?_
  | with_reducible refine w_iZip ?_
  | with_reducible refine w_yes ?_
  | with_reducible refine w_gtup ?_
  | with_reducible refine w_gcons ?_
  | with_reducible refine w_rcons ?_
  | with_reducible refine w_gnil ?_
  | with_reducible refine w_leS ?_
  | with_reducible refine w_isN ?_
  | with_reducible refine w_notN ?_
  | with_reducible refine w_call ?_
  | with_reducible refine w_meth ?_
  | with_reducible refine w_bm ?_
  | with_reducible refine w_bm0 ?_
  | with_reducible refine isi_int ?_
  | with_reducible refine isi_bl_int ?_
  | with_reducible refine isi_int_bl ?_
  | with_reducible refine isi_bl ?_
  | with_reducible refine isi_str ?_
  | with_reducible refine isi_non_dict ?_
  | with_reducible refine isi_int_dict ?_
  | with_reducible refine w_ntrue ?_
  | with_reducible refine w_nfalse ?_
  | with_reducible refine w_wt ?_
  | with_reducible refine w_starD ?_
  | with_reducible refine w_starT ?_
  | with_reducible refine w_listVals ?_
  | with_reducible refine w_iEnumT ?_
  | with_reducible refine w_iEnumS ?_
  | with_reducible refine w_enumS ?_
  | with_reducible refine w_frz ?_
  | with_reducible refine w_iItems ?_
  | with_reducible refine w_iKeys ?_
  | with_reducible refine w_iVals ?_
  | with_reducible refine w_strS ?_
  | with_reducible refine w_daug ?_
  | with_reducible refine w_rAdd ?_
  | with_reducible refine w_sfld ?_
  | ((with_reducible refine' w_var ?wsd ?_); (case wsd => first | rfl | assumption))
  | ((with_reducible refine' w_eq ?wsd ?_); (case wsd => rfl))
  | ((with_reducible refine' w_ne ?wsd ?_); (case wsd => rfl))
  | ((with_reducible refine' w_lenL ?wsd ?_); (case wsd => walk_at "sq"))
  | ((with_reducible refine' w_lenT ?wsd ?_); (case wsd => walk_at "sq"))
  | ((with_reducible refine' w_itL ?wsd ?_); (case wsd => walk_at "sq"))
  | ((with_reducible refine' w_itT ?wsd ?_); (case wsd => walk_at "sq"))
  | ((with_reducible refine' w_rng1v ?wsd ?_); (case wsd => omega))
  | ((with_reducible refine' w_rng2v ?wsd ?_); (case wsd => omega))
  | ((with_reducible refine' w_I ?wsd ?_); (case wsd => walk_at "side"))
  | ((with_reducible refine' w_dtrue ?wsd ?_); (case wsd => first | assumption | omega | rfl | decide))
  | ((with_reducible refine' w_dfalse ?wsd ?_); (case wsd => first | assumption | omega | decide))
  | ((with_reducible refine' w_ndtrue ?wsd ?_); (case wsd => first | assumption | omega | rfl | decide))
  | ((with_reducible refine' w_ndfalse ?wsd ?_); (case wsd => first | assumption | omega | decide))
  | ((with_reducible refine' w_stD ?wsd ?_); (case wsd => walk_at "hp"))
  | ((with_reducible refine' w_stT ?wsd ?_); (case wsd => walk_at "sq"))
  | ((with_reducible refine' w_stL ?wsd ?_); (case wsd => walk_at "sq"))
  | ((with_reducible refine' w_isD ?wsd ?_); (case wsd => walk_at "hp"))
  | ((with_reducible refine' isi_tup ?wsd ?_); (case wsd => walk_at "sq"))
  | ((with_reducible refine' isi_dict ?wsd ?_); (case wsd => walk_at "hp"))
  | ((with_reducible refine' w_lenDv ?wsd ?_); (case wsd => walk_at "hp"))
  | ((with_reducible refine' w_enum ?wsd ?_); (case wsd => walk_at "sq"))
  | ((with_reducible refine' w_enumT ?wsd ?_); (case wsd => walk_at "sq"))
  | ((with_reducible refine' w_tyL ?wsd ?_); (case wsd => walk_at "sq")))
local macro_rules | `(tactic| walk_at "side") => `(tactic| first | omega | decide | (constructor <;> omega) | (constructor <;> decide) | (simp only [List.length_map, List.length_append, List.length_cons, List.length_nil, CDivN, CMul, CPow]; first | omega | decide | (constructor <;> omega)))
local macro_rules | `(tactic| walk_at "w") => `(tactic| repeat (walk_at "w1"))
def spNetDropped (K : PySem.W.Frag) : Sp := fun vs H Q _ => ∃ (p : Addr) (N : NetD) (k : Str) (pl m : Nat), vs = [.ref p, .str k, .int pl, .int m] ∧ NetAt K H p N ∧ N.Ok ∧ k ∈ N.names ∧ pl < N.len k ∧
  ∀ d ks f H', Same H H' → H d = none → H' d = some (DI ks f) → Zr ks f → ks.Nodup → ks.length ≤ 40 → (∀ x ∈ ks, x ∈ N.names ∨ x = "o" ∨ x = "p") → (∀ x, f x = (N.fall k pl m x : Int)) → Q (.ref d) H'
abbrev N_Net_dropped : List Str := ["self", "name", "place", "many", "front", "turn", "found", "left", "rows", "drop", "whole", "rest", "at"]
theorem sc_Net_dropped : FnScope N_Net_dropped ["self", "name", "place", "many"] (defScope s_Net_dropped) := ⟨rfl, rfl, rfl, by decide +kernel, rfl, by decide +kernel, by decide +kernel⟩
theorem cut_two (xs : List V) (i n : Nat) : cutV xs (some (i : Int)) (some ((i : Int) + (n : Int))) = (xs.drop i).take n := by
  rw [show (i : Int) + (n : Int) = ((i + n : Nat) : Int) by omega]
  unfold cutV
  rw [HT.sIx_nat, HT.sIx_nat]
  rcases Nat.le_total (i + n) xs.length with h | h
  · rw [Nat.min_eq_left h, Nat.min_eq_left (by omega)]; congr 1; omega
  · rw [Nat.min_eq_right h]
    rcases Nat.le_total i xs.length with h2 | h2
    · rw [Nat.min_eq_left h2, List.take_of_length_le (by rw [List.length_drop]; omega), List.take_of_length_le (by rw [List.length_drop]; omega)]
    · rw [Nat.min_eq_right h2, List.drop_eq_nil_of_le h2]; simp
theorem tsum_take (x : Str) (w r : Nat) : ∀ (i0 : Nat) (l : List (List Str)) (i : Nat) (dr : List Str), l[i]? = some dr → NetD.ts x w r i0 (l.take (i + 1)) = NetD.ts x w r i0 (l.take i) + dr.count x * (w + if i0 + i < r then 1 else 0)
  | _, [], i, _, h => by simp at h
  | i0, d :: l, 0, dr, h => by
    simp at h; subst h
    simp [NetD.ts]
  | i0, d :: l, i + 1, dr, h => by
    have := tsum_take x w r (i0 + 1) l i dr (by simpa using h)
    simp only [List.take_succ_cons, NetD.ts, this, show i0 + 1 + i = i0 + (i + 1) by omega]
    omega
section
variable {P : Program} {w : World} {K : PySem.W.Frag} {mg : Str → Option Value} {base : Heap}
theorem ok_Net_dropped (T : TX K mg) : Fok P w K mg base CX0 2 (He.ma K (He.ga K "Net") "dropped") ["self", "name", "place", "many"] [] (spNetDropped K) := by
  obtain ⟨fd, F⟩ := T.fn_Net_dropped
  refine ⟨⟨fd, [], ?_, F.bindsN fun _ _ _ _ _ _ us hl => match us, hl with | [_, _, _, _], _ => rfl, .nil⟩, F.kp⟩
  refine F.ok sc_Net_dropped (fun vs H Q E h => ?_) (fun cdv A outer s H vs Q E hr h => ?_)
  · obtain ⟨_, _, _, _, _, rfl, _⟩ := h
    rfl
  obtain ⟨p, N, kn, pl, m, rfl, ⟨dk, di, to, ln, dx, hN⟩, hok, hk, hpl, k⟩ := h
  have hu := hu_of hr
  have O_count := @ok_count P w K mg base T
  have hlen : N.len kn = (N.fr kn).length + (N.tn kn).length := by unfold NetD.len NetD.rows; rw [List.length_append]
  have htl := hok.tl kn hk
  have hfl := hok.fl kn hk
  refine ssx_nox ?_
  obtain ⟨kv, f, t, k1, k2, k3, k4⟩ := NetAt.knot hN.kn hk
  have hRw := k4
  obtain ⟨fs, f1, f2⟩ := id k3
  obtain ⟨ds, t1, t2⟩ := id k4
  have hfs := paired_len f2
  have hds := paired_len t2
  refine ssx_cons (ps_asg (pe_dget hu (q_fld K (pv 0) rfl) (pv 1) (fun _ _ => rfl)) (qg_tup K rfl (pgs_cons (pg_name (i := 4) sc_Net_dropped.nd rfl (Or.inl rfl)) (pgs_cons (pg_name (i := 5) sc_Net_dropped.nd rfl (Or.inl rfl)) pgs_nil)))) ?_
  walk_at "w"
  refine w_nknots T hN ?_
  walk_at "w"
  refine w_getK k1 hk ?_
  walk_at "w"
  refine w_tu k2 rfl ?_
  walk_at "w"
  refine ssx_cons (ps_par (i := 6) (j := 7) rfl sc_Net_dropped.nd rfl rfl (by decide) rfl rfl (pa_cons pe_dnewK (pa_cons (pv 3) pa_nil)) rfl) ?_
  walk_at "w"
  refine w_new fun d H1 hd s1 h1 => ?_
  walk_at "w"
  refine ssx_cons (ps_set (i := 8) sc_Net_dropped.nd rfl (Or.inl rfl) (pe_slice (q_slL K) (pe_lst (qa_star K (pv 4) (qa_star K (pv 5) pa_nil))) (po_some (pv 2)) (po_some (pe_op op_add (pv 2) (pv 3))))) ?_
  walk_at "w"
  refine w_newL (by simp; omega) fun l0 H2 hl0 s2 h2 => ?_
  walk_at "w"
  refine w_slL (sqL h2) fun l H3 hl s3 h3 => ?_
  walk_at "w"
  rw [cut_two, List.append_nil, ← List.map_append, ← List.map_drop, ← List.map_take] at h3
  have s03 := (s1.trans s2).trans s3
  have hP : Paired (fun d dr => SqT K H d (dr.map V.str)) (((fs ++ ds).drop pl).take m) (((N.rows kn).drop pl).take m) := by
    have h0 := paired_app f2 t2
    have hdrop : ∀ (n : Nat) {xs : List Addr} {ys : List (List Str)}, Paired (fun d dr => SqT K H d (dr.map V.str)) xs ys → Paired (fun d dr => SqT K H d (dr.map V.str)) (xs.drop n) (ys.drop n) := by
      intro n
      induction n with
      | zero => exact fun h => h
      | succ n ih => exact fun h => match h with | .nil => .nil | .cons _ t => ih t
    have htake : ∀ (n : Nat) {xs : List Addr} {ys : List (List Str)}, Paired (fun d dr => SqT K H d (dr.map V.str)) xs ys → Paired (fun d dr => SqT K H d (dr.map V.str)) (xs.take n) (ys.take n) := by
      intro n
      induction n with
      | zero => exact fun h => .nil
      | succ n ih => exact fun h => match h with | .nil => .nil | .cons a t => .cons a (ih t)
    exact htake m (hdrop pl h0)
  generalize hrs : ((N.rows kn).drop pl).take m = rs at hP
  generalize ((fs ++ ds).drop pl).take m = qs at hP h3
  have hrl : rs.length = min m (N.len kn - pl) := by rw [← hrs, List.length_take, List.length_drop]; rfl
  have hql := paired_len hP
  have hmem : ∀ dr ∈ rs, dr ∈ N.fr kn ++ N.tn kn := fun dr h => by
    rw [← hrs] at h
    exact List.mem_of_mem_drop (List.mem_of_mem_take h)
  have hld : l ≠ d := fun z => by rw [z, s2 _ _ h1] at hl; cases hl
  have hl0 : H l = none := (s1.trans s2).free hl
  refine ssx_cons (ps_for PassesOwn.never rfl (qi_list K (pv 8)) (pg_name (i := 9) sc_Net_dropped.nd rfl (Or.inl rfl)) SSX.ps) ?_
  walk_at "w"
  refine for_list (xs := qs.map V.ref) (fun i σ H4 => ∃ ks g o9, σ = [some (.ref p), some (.str kn), some (.int pl), some (.int m), some (.ref f), some (.ref t), some (.ref d), some (.int m), some (.ref l), o9, none, none, none] ∧ Same H H4 ∧ H4 l = some (.lst (qs.map V.ref)) ∧ H4 d = some (DI ks g) ∧ Zr ks g ∧ ks.Nodup ∧
      (∀ x, g x = (NetD.cr x (rs.take i) : Int)) ∧ ks.length ≤ 2 * i ∧ ∀ x ∈ ks, x ∈ N.names ∨ x = "o" ∨ x = "p") ?_ (fun i σ H4 _ h => by obtain ⟨_, _, _, _, _, h, _⟩ := h; exact sqL h) ?_ ?_
  · exact ⟨[], fun _ => 0, _, rfl, s03, h3, s3 _ _ (s2 _ _ h1), fun _ _ => rfl, .nil, fun _ => rfl, by simp, by simp⟩
  · rintro i x σ H4 hx ⟨ks, g, o9, rfl, s4, h4l, h4d, hz, hnd, hg, hkl, hkn⟩
    obtain ⟨q, hq, rfl⟩ := map_get hx
    obtain ⟨hi, _⟩ := List.getElem?_eq_some_iff.mp hq
    have hi4 : i < rs.length := by omega
    have hr4 : rs[i]? = some (rs[i]'hi4) := List.getElem?_eq_getElem _
    obtain ⟨q', e1, e2⟩ := paired_get hP hr4
    rw [hq] at e1; cases e1
    have hdr := hok.dr kn hk _ (hmem _ (List.getElem_mem hi4))
    generalize rs[i]'hi4 = dr at *
    walk_at "w"
    refine ssx_cons (ps_expr (pe_callF O_count (hr.mono (by decide)) rfl T.g_count pass0 (pa_cons (pv 6) (pa_cons (pv 9) (pa_cons pe_int pa_nil))))) ?_
    walk_at "w"
    refine ⟨d, q, 1, dr, ks, g, rfl, h4d, Same.sqt s4 e2, hz, by omega, fun ks' g' hz' hg' hk' hn' hl' => ?_⟩
    refine ssx_nil ⟨ks', g', _, rfl, Same.mut s4 hd, by rw [upd_ne hld]; exact h4l, upd_same, hz', hn' hnd, fun x => ?_, by omega, fun x hx => ?_⟩
    · rw [hg', hg, take_snoc hr4, NetD.cr_append]; simp [NetD.cr]
    · rcases (hk' x).mp hx with z | z
      · exact hkn x z
      · exact hdr.2 x z
  · rintro σ H4 ⟨ks, g, o9, rfl, s4, h4l, h4d, hz, hnd, hg, hkl, hkn⟩
    rw [List.length_map, hql] at hg hkl
    rw [List.take_length] at hg
    refine ssx_cons (ps_set (i := 7) sc_Net_dropped.nd rfl (Or.inl rfl) (pe_op op_sub (pv 3) (pe_callB (q_len K) rfl T.f_len bb_len (pa_cons (pv 8) pa_nil)))) ?_
    walk_at "w"
    rw [List.length_map, hql]
    have hfe := fun x => N.fall_eq htl.1 hpl x m
    simp only [hrs] at hfe
    refine ssx_cons (ps_if (pt_cmpR op_gt (pv 7) pe_int (nomark _)) SSX.ps SSX.ps) ?_
    walk_at "w"
    refine w_dcases (fun hlt => ?_) fun hlt => ?_
    · have hle : m - (N.len kn - pl) = m - rs.length := by omega
      rw [hle] at hfe
      rw [show (m : Int) - (rs.length : Int) = ((m - rs.length : Nat) : Int) by omega]
      generalize m - rs.length = lf at *
      refine ssx_cons (ps_par (i := 10) (j := 11) rfl sc_Net_dropped.nd rfl rfl (by decide) rfl rfl (pa_cons (pe_op op_fdivN (pv 7) (pe_callB (q_len K) rfl T.f_len bb_len (pa_cons (pv 5) pa_nil))) (pa_cons (pe_op op_modN (pv 7) (pe_callB (q_len K) rfl T.f_len bb_len (pa_cons (pv 5) pa_nil))) pa_nil)) rfl) ?_
      walk_at "w"
      simp only [List.length_map, hds]
      rw [fdiv_nat, fmod_nat]
      refine ssx_cons (ps_for PassesOwn.never rfl (qi_enumT K rfl T.f_enumerate (pa_cons (pv 5) pa_nil)) (qg_tup K rfl (pgs_cons (pg_name (i := 12) sc_Net_dropped.nd rfl (Or.inl rfl)) (pgs_cons (pg_name (i := 9) sc_Net_dropped.nd rfl (Or.inl rfl)) pgs_nil))) SSX.ps) ?_
      walk_at "w"
      refine for_walk (walk_enumT (xs := ds.map V.ref)) (fun i σ H5 => ∃ ks g o9 o12, σ = [some (.ref p), some (.str kn), some (.int pl), some (.int m), some (.ref f), some (.ref t), some (.ref d), some (.int lf), some (.ref l), o9, some (.int ((lf / (N.tn kn).length : Nat) : Int)), some (.int ((lf % (N.tn kn).length : Nat) : Int)), o12] ∧ Same H H5 ∧ H5 d = some (DI ks g) ∧ Zr ks g ∧ ks.Nodup ∧
        (∀ x, g x = (NetD.cr x rs : Int) + (NetD.ts x (lf / (N.tn kn).length) (lf % (N.tn kn).length) 0 ((N.tn kn).take i) : Int)) ∧ ks.length ≤ 14 + 2 * i ∧ ∀ x ∈ ks, x ∈ N.names ∨ x = "o" ∨ x = "p") ?_ ?_ ?_ ?_
      · exact ⟨ks, g, _, _, rfl, s4, h4d, hz, hnd, fun x => by rw [hg]; simp [NetD.ts], by omega, hkn⟩
      · rintro i σ H5 _ ⟨_, _, _, _, _, s5, _⟩
        exact Same.sqt s5 t1
      · rintro i x σ H5 _ hi ⟨ks, g, o9, o12, rfl, s5, h5d, hz, hnd, hg, hkl, hkn⟩ ⟨T5, _, y, rfl, hT5, rfl, e0, ey⟩
        cases e0
        obtain ⟨q, hq, rfl⟩ := map_get ey
        rw [List.length_map] at hi
        have hi4 : i < (N.tn kn).length := by omega
        have hr4 : (N.tn kn)[i]? = some ((N.tn kn)[i]'hi4) := List.getElem?_eq_getElem _
        obtain ⟨q', e1, e2⟩ := paired_get t2 hr4
        rw [hq] at e1; cases e1
        have hdr := hok.dr kn hk _ (List.mem_append.mpr (.inr (List.getElem_mem hi4)))
        generalize (N.tn kn)[i]'hi4 = dr at *
        have hTd : T5 ≠ d := fun z => by rw [z, h5d] at hT5; cases hT5
        refine g_pair ?_
        refine ssx_cons (ps_expr (pe_callF O_count (hr.mono (by decide)) rfl T.g_count pass0 (pa_cons (pv 6) (pa_cons (pv 9) (pa_cons (pe_op op_add (pv 10) (pe_ifExp (pt_cmpR op_lt (pv 12) (pv 11) (nomark _)) pe_int pe_int)) pa_nil))))) ?_
        walk_at "w"
        have s6 : Same H (upd H5 T5 (.tup [.int (i : Nat), .ref q])) := s5.trans (Same.alloc hT5)
        have h6d : (upd H5 T5 (.tup [.int (i : Nat), .ref q])) d = some (DI ks g) := by rw [upd_ne hTd.symm]; exact h5d
        refine w_dcases (fun hlt2 => ?_) fun hlt2 => ?_
        all_goals
          walk_at "w"
          refine ⟨d, q, _, dr, ks, g, rfl, h6d, Same.sqt s6 e2, hz, by omega, fun ks' g' hz' hg' hk' hn' hl' => ?_⟩
          refine ssx_nil ⟨ks', g', _, _, rfl, Same.mut s6 hd, upd_same, hz', hn' hnd, fun x => ?_, by omega, fun x hx => ?_⟩
          · rw [hg', hg, tsum_take x _ _ 0 _ i dr hr4, Nat.zero_add]
            simp only [Int.ofNat_lt] at hlt2
            simp only [hlt2, if_true, if_false]
            rw [Int.mul_comm]
            push_cast
            omega
          · rcases (hk' x).mp hx with z | z
            · exact hkn x z
            · exact hdr.2 x z
      · rintro σ H5 ⟨ks, g, o9, o12, rfl, s5, h5d, hz, hnd, hg, hkl, hkn⟩
        rw [List.length_map, hds] at hg hkl
        rw [List.take_length] at hg
        refine ssx_nil (ssx_cons (ps_ret (pv 6)) ?_)
        walk_at "w"
        exact k d ks g H5 s5 hd h5d hz hnd (by omega) hkn fun x => by rw [hg, hfe]; omega
    · refine ssx_nil (ssx_cons (ps_ret (pv 6)) ?_)
      walk_at "w"
      have hle : m - (N.len kn - pl) = 0 := by omega
      exact k d ks g H4 s4 hd h4d hz hnd (by omega) hkn fun x => by rw [hg, hfe, hle, Nat.zero_div, Nat.zero_mod, NetD.ts_zero]; omega
end
end K1
namespace K1
open PySem PySem.Spec L2
open PyProof.Rows hiding St
def RFrz (x : V) (H : Hp) (Q : VK) : Prop := ∃ d u, x = .ref d ∧ H d = some u ∧ Mut (some u) ∧ ∀ od, Q x (upd H d (.frz od u))
def tFrz (te : TE) : TE := fun σ H Q => te σ H fun x H1 => RFrz x H1 Q
theorem pe_frz {X : Cx} {e : Expr} {te : TE} (he : PE X e te) : PE X e (tFrz te) := by
  refine ⟨fun pins s σ H Q I h => ?_⟩
  refine thn (he.run pins s σ H _ I h) fun v s1 ⟨x, H1, I1, r, d, u, ex, hd, mu, q⟩ => ?_
  obtain ⟨od, I2⟩ := I1.lock hd mu
  exact ⟨x, _, I2, r, q od⟩
def RItm (x : V) (H : Hp) (R : It → Hp → Prop) : Prop := ∃ d o kvs, x = .ref d ∧ H d = some (.frz o (.dK kvs)) ∧ R (Iti d o kvs) H
def RKys (x : V) (H : Hp) (R : It → Hp → Prop) : Prop := ∃ d o, x = .ref d ∧ ((∃ kvs, H d = some (.frz o (.dK kvs)) ∧ R (Itk d o kvs) H) ∨ ∃ kvs, H d = some (.frz o (.dT kvs)) ∧ R (Itkt d o kvs) H)
def RVls (x : V) (H : Hp) (R : It → Hp → Prop) : Prop := ∃ d o kvs, x = .ref d ∧ H d = some (.frz o (.dK kvs)) ∧ R (Itd d o kvs) H
section
variable {H H' : Hp} {σ : St} {Q : VK} {td te : TE} {a : Addr} {kvs : List (Key × V)} {o : Obj} {u z : HO} {ks : List Str} {f : Str → V} {t : TE} {ts : TS} {D : Ends}
theorem w_frz (h : te σ H fun x H1 => RFrz x H1 Q) : tFrz te σ H Q := h
theorem w_frzD (hd : H a = some (.dK kvs)) (h : ∀ od, Q (.ref a) (upd H a (.frz od (.dK kvs)))) : RFrz (.ref a) H Q := ⟨a, _, rfl, hd, trivial, h⟩
theorem w_iItems {R : It → Hp → Prop} (h : td σ H fun x H1 => RItm x H1 R) : iItems td σ H R := h
theorem w_iKeys {R : It → Hp → Prop} (h : td σ H fun x H1 => RKys x H1 R) : iKeys td σ H R := h
theorem w_iVals {R : It → Hp → Prop} (h : td σ H fun x H1 => RVls x H1 R) : iVals td σ H R := h
theorem w_itm {R : It → Hp → Prop} (hd : H a = some (.frz o (.dK kvs))) (h : R (Iti a o kvs) H) : RItm (.ref a) H R := ⟨a, o, kvs, rfl, hd, h⟩
theorem w_kys {R : It → Hp → Prop} (hd : H a = some (.frz o (.dK kvs))) (h : R (Itk a o kvs) H) : RKys (.ref a) H R := ⟨a, o, rfl, .inl ⟨kvs, hd, h⟩⟩
theorem w_vls {R : It → Hp → Prop} (hd : H a = some (.frz o (.dK kvs))) (h : R (Itd a o kvs) H) : RVls (.ref a) H R := ⟨a, o, kvs, rfl, hd, h⟩
theorem w_lockE (hd : H a = some (.dK kvs)) (h : ∀ od, t σ (upd H a (.frz od (.dK kvs))) fun v H' => H' a = some (.frz od (.dK kvs)) ∧ Q v (upd H' a (.dK kvs))) : tLockE t σ H Q := ⟨a, _, hd, trivial, h⟩
theorem w_lock (hd : H a = some (.dK kvs)) (h : ∀ od, ts ⟨fun σ' H' => H' a = some (.frz od (.dK kvs)) ∧ D.nx σ' (upd H' a (.dK kvs)), fun v H' => H' a = some (.frz od (.dK kvs)) ∧ D.rt v (upd H' a (.dK kvs)), fun σ' H' => H' a = some (.frz od (.dK kvs)) ∧ D.bk σ' (upd H' a (.dK kvs)), fun σ' H' => H' a = some (.frz od (.dK kvs)) ∧ D.ct σ' (upd H' a (.dK kvs))⟩ σ (upd H a (.frz od (.dK kvs)))) : tLock ts D σ H := ⟨a, _, hd, trivial, h⟩
theorem Same.unlock (hd : H a = some u) (s : Same (upd H a z) H') : Same H (upd H' a u) := by
  intro b o e
  by_cases q : b = a
  · subst q; rw [hd] at e; cases e; exact upd_same
  · rw [upd_ne q]; exact s b o (by rw [upd_ne q]; exact e)
theorem Same.lock (hd : H a = none) (s : Same H H') : Same H (upd H' a z) := Same.mut s hd
theorem frz_at : (upd H a (.frz o u)) a = some (.frz o u) := upd_same
theorem mapK_get {i : Nat} {y : Key × V} (h : (mapK ks f)[i]? = some y) : ∃ k, ks[i]? = some k ∧ y = (Sum.inr k, f k) := map_get h
theorem walk_ks : Walk (Itk a o (mapK ks f)) ks.length (fun H => H a = some (.frz o (.dK (mapK ks f)))) (fun i H x H' => H' = H ∧ ∃ k, ks[i]? = some k ∧ x = .str k) := by
  have := walk_keys (d := a) (o := o) (kvs := mapK ks f)
  rw [mapK_len] at this
  refine this.mono (fun _ h => h) fun i H x H' _ _ y => ?_
  obtain ⟨e, k, v, h1, h2⟩ := y
  obtain ⟨k', h3, h4⟩ := mapK_get h1
  cases h4
  exact ⟨e, k', h3, h2⟩
theorem walk_its : Walk (Iti a o (mapK ks f)) ks.length (fun H => H a = some (.frz o (.dK (mapK ks f)))) (fun i H v H' => ∃ T k, v = .ref T ∧ H T = none ∧ H' = upd H T (.tup [.str k, f k]) ∧ ks[i]? = some k) := by
  have := walk_items (d := a) (o := o) (kvs := mapK ks f)
  rw [mapK_len] at this
  refine this.mono (fun _ h => h) fun i H x H' _ _ y => ?_
  obtain ⟨T, x, y, h1, h2, h3, h4, h5⟩ := y
  replace h4 : Option.map (fun kv => kV kv.fst) (mapK ks f)[i]? = some x := h4
  replace h5 : Option.map Prod.snd (mapK ks f)[i]? = some y := h5
  cases e : (mapK ks f)[i]? with
  | none => rw [e] at h4; cases h4
  | some kv =>
    obtain ⟨k, h6, h7⟩ := mapK_get e
    rw [e] at h4 h5
    subst h7
    cases h4
    cases h5
    exact ⟨T, k, h1, h2, h3, h6⟩
theorem walk_vs : Walk (Itd a o (mapK ks f)) ks.length (fun H => H a = some (.frz o (.dK (mapK ks f)))) (fun i H x H' => H' = H ∧ ∃ k, ks[i]? = some k ∧ x = f k) := by
  have := walk_values (d := a) (o := o) (kvs := mapK ks f)
  rw [mapK_len] at this
  refine this.mono (fun _ h => h) fun i H x H' _ _ y => ?_
  obtain ⟨e, k, h1⟩ := y
  obtain ⟨k', h3, h4⟩ := mapK_get h1
  cases h4
  exact ⟨e, k', h3, rfl⟩
def RDA (x y : V) (H : Hp) (R : Addr → V → Prop) : Prop := ∃ a v, x = .ref a ∧ DGet H a y (some v) ∧ R a v
def RPutA (a : Addr) (y z : V) (H : Hp) (R : Hp → Prop) : Prop := ∃ H5, DPut H a y z H5 ∧ R H5
theorem w_daug {ty tv : TE} {rd : V → V → Hp → VK → Prop} (h : td σ H fun x H1 => ty σ H1 fun y H2 => RDA x y H2 fun a v => tv σ H2 fun y2 H3 => rd v y2 H3 fun z H4 => RPutA a y z H4 fun H5 => D.nx σ H5) : sDAug td ty tv rd D σ H := h
theorem w_rAdd {i j : Int} (h : Q (.int (i + j)) H) : rAdd (.int i) (.int j) H Q := ⟨i, j, rfl, rfl, h⟩
theorem w_da {g : Str → Int} {k : Str} {R : Addr → V → Prop} (h : H a = some (DI ks g)) (hk : k ∈ ks) (q : R a (.int (g k))) : RDA (.ref a) (.str k) H R := ⟨a, .int (g k), rfl, by have := dget_K (k := k) h; rwa [if_pos hk] at this, q⟩
theorem w_putA {g : Str → Int} {k : Str} {v : Int} {R : Hp → Prop} (h : H a = some (DI ks g)) (hl : ks.length ≤ 1000) (q : R (upd H a (DI (ins ks k) (up g k v)))) : RPutA a (.str k) (.int v) H R := by
  obtain ⟨a', H5, e, hp, q⟩ := w_putI h hl q
  cases e
  exact ⟨H5, hp, q⟩
def RSFld (K : PySem.W.Frag) (f : Str) (x y : V) (H : Hp) (R : Hp → Prop) : Prop := ∃ a C dx fs, x = .ref a ∧ H a = some (.ins C dx fs) ∧ Cls K C ∧ NoAttr K C f ∧ fs.length < 1000 ∧ R (upd H a (.ins C dx (putF f y fs)))
theorem w_sfld {K : PySem.W.Frag} {ta tv : TE} {m : Str} (h : tv σ H fun y H1 => ta σ H1 fun x H2 => RSFld K m x y H2 fun H3 => D.nx σ H3) : sFld K ta tv m D σ H := h
theorem w_sf {K : PySem.W.Frag} {m : Str} {C dx : Addr} {fs : List (Str × V)} {y : V} {R : Hp → Prop} (h : H a = some (.ins C dx fs)) (c : Cls K C) (n : NoAttr K C m) (l : fs.length < 1000) (q : R (upd H a (.ins C dx (putF m y fs)))) : RSFld K m (.ref a) y H R := ⟨a, C, dx, fs, rfl, h, c, n, l, q⟩
theorem w_strS {x : Str} (h : Q (.str x) H) : rStrS [.str x] H Q := ⟨x, rfl, h⟩
theorem w_sortP {K : PySem.W.Frag} (hl : SqL K H a (ks.map V.str)) (hz : ks.length < 64) (h : ∀ (ys : List Str) p H', ys.Perm ks → H p = none → Same H H' → H' p = some (.lst (ys.map V.str)) → Q (.ref p) H') : rSortedS K [.ref a] H Q :=
  ⟨a, ks, rfl, hl, hz, fun ys p hq _ hn => h ys p _ hq hn (Same.alloc hn) upd_same⟩
end
end K1
namespace K1
open PySem PySem.Spec L2
open PyProof.Rows hiding St
local macro_rules | `(tactic| walk_at "hp") => `(tactic| first | assumption | exact upd_same | (refine' Same.to ?wse ?wsh; (case wse => assumption); (case wsh => walk_at "hp")) | ((rw [upd_ne (by first | assumption | (apply Ne.symm; assumption))]); walk_at "hp"))
local macro_rules | `(tactic| walk_at "sq") => `(tactic| first | assumption | exact sqL (by walk_at "hp") | exact sqT (by walk_at "hp") | (refine' Same.seqTo ?wse ?wsh; (case wse => assumption); (case wsh => walk_at "sq")) | (refine' Same.sqtTo ?wse ?wsh; (case wse => assumption); (case wsh => walk_at "sq")))
local macro_rules | `(tactic| walk_at "w1") => `(tactic| first
  | with_reducible refine w_asg ?_
  | with_reducible refine w_c ?_
  | with_reducible refine w_gname ?_
  | with_reducible refine w_if ?_
  | with_reducible refine w_ifs ?_
  | with_reducible refine w_test ?_
  | with_reducible refine w_tB ?_
  | with_reducible refine w_bl ?_
  | with_reducible refine w_op ?_
  | with_reducible refine w_nil ?_
  | with_reducible refine w_cons ?_
  | with_reducible refine w_cb ?_
  | with_reducible refine w_I0 ?_
  | with_reducible refine w_lst ?_
  | with_reducible refine w_tup ?_
  | with_reducible refine w_sl ?_
  | with_reducible refine w_noPart ?_
  | with_reducible refine w_part ?_
  | with_reducible refine w_int ?_
  | with_reducible refine w_par ?_
  | with_reducible refine w_two ?_
  | with_reducible refine w_par3 ?_
  | with_reducible refine w_three ?_
  | with_reducible refine w_ret ?_
  | with_reducible refine w_drop ?_
  | with_reducible refine w_chain ?_
  | with_reducible refine w_and ?_
  | with_reducible refine w_or ?_
  | with_reducible refine w_not ?_
  | with_reducible refine w_notV ?_
  | with_reducible refine w_andV ?_
  | with_reducible refine w_orV ?_
  | with_reducible refine w_int1 ?_
  | with_reducible refine w_true ?_
  | with_reducible refine w_false ?_
  | with_reducible refine w_for ?_
  | with_reducible refine w_rng1 ?_
  | with_reducible refine w_rng2 ?_
  | with_reducible refine w_iList ?_
  | with_reducible refine w_iTup ?_
  | with_reducible refine w_dget ?_
  | with_reducible refine w_din ?_
  | with_reducible refine w_dnotin ?_
  | with_reducible refine w_dput ?_
  | with_reducible refine w_dget2 ?_
  | with_reducible refine w_fld ?_
  | with_reducible refine w_dnew ?_
  | with_reducible refine w_lc ?_
  | with_reducible refine w_dc ?_
  | with_reducible refine w_iStr ?_
  | with_reducible refine w_str ?_
  | with_reducible refine w_iEnum ?_
  | with_reducible refine w_iZip ?_
  | with_reducible refine w_yes ?_
  | with_reducible refine w_gtup ?_
  | with_reducible refine w_gcons ?_
  | with_reducible refine w_rcons ?_
  | with_reducible refine w_gnil ?_
  | with_reducible refine w_leS ?_
  | with_reducible refine w_isN ?_
  | with_reducible refine w_notN ?_
  | with_reducible refine w_call ?_
  | with_reducible refine w_meth ?_
  | with_reducible refine w_bm ?_
  | with_reducible refine w_bm0 ?_
  | with_reducible refine isi_int ?_
  | with_reducible refine isi_bl_int ?_
  | with_reducible refine isi_int_bl ?_
  | with_reducible refine isi_bl ?_
  | with_reducible refine isi_str ?_
  | with_reducible refine isi_non_dict ?_
  | with_reducible refine isi_int_dict ?_
  | with_reducible refine w_ntrue ?_
  | with_reducible refine w_nfalse ?_
  | with_reducible refine w_wt ?_
  | with_reducible refine w_starD ?_
  | with_reducible refine w_starT ?_
  | with_reducible refine w_listVals ?_
  | with_reducible refine w_iEnumT ?_
  | with_reducible refine w_iEnumS ?_
  | with_reducible refine w_enumS ?_
  | with_reducible refine w_frz ?_
  | with_reducible refine w_iItems ?_
  | with_reducible refine w_iKeys ?_
  | with_reducible refine w_iVals ?_
  | with_reducible refine w_strS ?_
  | with_reducible refine w_daug ?_
  | with_reducible refine w_rAdd ?_
  | with_reducible refine w_sfld ?_
  | ((with_reducible refine' w_var ?wsd ?_); (case wsd => first | rfl | assumption))
  | ((with_reducible refine' w_eq ?wsd ?_); (case wsd => rfl))
  | ((with_reducible refine' w_ne ?wsd ?_); (case wsd => rfl))
  | ((with_reducible refine' w_lenL ?wsd ?_); (case wsd => walk_at "sq"))
  | ((with_reducible refine' w_lenT ?wsd ?_); (case wsd => walk_at "sq"))
  | ((with_reducible refine' w_itL ?wsd ?_); (case wsd => walk_at "sq"))
  | ((with_reducible refine' w_itT ?wsd ?_); (case wsd => walk_at "sq"))
  | ((with_reducible refine' w_rng1v ?wsd ?_); (case wsd => omega))
  | ((with_reducible refine' w_rng2v ?wsd ?_); (case wsd => omega))
  | ((with_reducible refine' w_I ?wsd ?_); (case wsd => walk_at "side"))
  | ((with_reducible refine' w_dtrue ?wsd ?_); (case wsd => first | assumption | omega | rfl | decide))
  | ((with_reducible refine' w_dfalse ?wsd ?_); (case wsd => first | assumption | omega | decide))
  | ((with_reducible refine' w_ndtrue ?wsd ?_); (case wsd => first | assumption | omega | rfl | decide))
  | ((with_reducible refine' w_ndfalse ?wsd ?_); (case wsd => first | assumption | omega | decide))
  | ((with_reducible refine' w_stD ?wsd ?_); (case wsd => walk_at "hp"))
  | ((with_reducible refine' w_stT ?wsd ?_); (case wsd => walk_at "sq"))
  | ((with_reducible refine' w_stL ?wsd ?_); (case wsd => walk_at "sq"))
  | ((with_reducible refine' w_isD ?wsd ?_); (case wsd => walk_at "hp"))
  | ((with_reducible refine' isi_tup ?wsd ?_); (case wsd => walk_at "sq"))
  | ((with_reducible refine' isi_dict ?wsd ?_); (case wsd => walk_at "hp"))
  | ((with_reducible refine' w_lenDv ?wsd ?_); (case wsd => walk_at "hp"))
  | ((with_reducible refine' w_enum ?wsd ?_); (case wsd => walk_at "sq"))
  | ((with_reducible refine' w_enumT ?wsd ?_); (case wsd => walk_at "sq"))
  | ((with_reducible refine' w_tyL ?wsd ?_); (case wsd => walk_at "sq")))
local macro_rules | `(tactic| walk_at "side") => `(tactic| first | omega | decide | (constructor <;> omega) | (constructor <;> decide) | (simp only [List.length_map, List.length_append, List.length_cons, List.length_nil, CDivN, CMul, CPow]; first | omega | decide | (constructor <;> omega)))
local macro_rules | `(tactic| walk_at "w") => `(tactic| repeat (walk_at "w1"))
def spCheckNet (K : PySem.W.Frag) : Sp := fun vs H Q _ => ∃ (p : Addr) (N : NetD), vs = [.ref p] ∧ NetAt K H p N ∧ Q .non H
def StAt (H : Hp) (a : Addr) (N : NetD) (st : Str → Nat) : Prop := ∃ ks, H a = some (DI ks fun k => (st k : Int)) ∧ ks.length = N.names.length ∧ (∀ k ∈ N.names, k ∈ ks) ∧ ∀ k ∈ N.names, st k < N.len k
def BadSt (H : Hp) (x : V) (N : NetD) : Prop := (∃ i, x = .int i) ∨ ∃ a ks f, x = .ref a ∧ H a = some (DI ks f) ∧ ks.length ≤ 1000 ∧ (ks.length ≠ N.names.length ∨ (("a" : Str) ∈ ks ∧ ¬ (0 ≤ f "a" ∧ f "a" < N.len "a")))
def spCheckStanding (K : PySem.W.Frag) : Sp := fun vs H Q E => ∃ (p : Addr) (N : NetD) (x : V), vs = [.ref p, x] ∧ NetAt K H p N ∧ N.Ok ∧ ((∃ a st, x = .ref a ∧ StAt H a N st ∧ Q .non H) ∨ (BadSt H x N ∧ ∀ H', Same H H' → E (.ref (He.ga K "BadStanding")) none H'))
def kn (N : NetD) (k : Str) : Str := if k = "i" ∨ k = "j" then inl N k else k
def bsum (N : NetD) (f : Str → Nat) (ks : List Str) (x : Str) : Nat := NetD.sm (fun k => if kn N k = x then f k else 0) ks
def BlAt (H : Hp) (a : Addr) (N : NetD) (ks : List Str) (bl : Str → Nat) : Prop := H a = some (DI ks fun k => (bl k : Int)) ∧ ks.length ≤ 10 ∧ ∀ k ∈ ks, PyData.strOk k = true ∧ (k = "i" ∨ k = "j" ∨ k ∈ N.names)
def BadBl (H : Hp) (x : V) (N : NetD) : Prop := x = .non ∨ ∃ a k v, x = .ref a ∧ H a = some (.dK (mapK [k] fun _ => v)) ∧ PyData.strOk k = true ∧ ((¬ (k = "i" ∨ k = "j") ∧ k ∉ N.names) ∨ (∃ b, v = .bl b) ∨ ∃ i, v = .int i ∧ i < 0)
def spCheckBalls (K : PySem.W.Frag) : Sp := fun vs H Q E => ∃ (p : Addr) (N : NetD) (x : V), vs = [.ref p, x] ∧ NetAt K H p N ∧ N.Ok ∧
  ((∃ a ks bl, x = .ref a ∧ BlAt H a N ks bl ∧ ∀ d ws H', Same H H' → H d = none → ws.Nodup → (∀ k ∈ ws, k ∈ N.names) → Zr ws (fun k => (bsum N bl ks k : Int)) → H' d = some (DI ws fun k => (bsum N bl ks k : Int)) → Q (.ref d) H') ∨ (BadBl H x N ∧ ∀ H', Same H H' → E (.ref (He.ga K "BadBalls")) none H'))
abbrev N_check_net : List Str := ["thing"]
theorem sc_check_net : FnScope N_check_net ["thing"] (defScope s_check_net) := ⟨rfl, rfl, rfl, by decide +kernel, rfl, by decide +kernel, by decide +kernel⟩
section
variable {P : Program} {w : World} {K : PySem.W.Frag} {mg : Str → Option Value} {base : Heap}
theorem isi_own {H : Hp} {p dk di to ln dx : Addr} {N : NetD} {Q : VK} (T : TX K mg) (hN : NetOb K H p N dk di to ln dx) (h : Q (.bl true) H) : rIsi K [.ref p, .ref (He.ga K "Net")] H Q :=
  w_isi (.own _) (.base (T.o_Net hN.ob)) (by unfold PySem.W.kitOne; simp) h
theorem ok_check_net (T : TX K mg) : Fok P w K mg base CX0 1 (He.ga K "check_net") ["thing"] [] (spCheckNet K) := by
  obtain ⟨fd, F⟩ := T.fn_check_net
  refine ⟨⟨fd, [], ?_, F.bindsN fun _ _ _ _ _ _ us hl => match us, hl with | [_], _ => rfl, .nil⟩, F.kp⟩
  refine F.ok sc_check_net (fun vs H Q E h => ?_) (fun cdv A outer s H vs Q E hr h => ?_)
  · obtain ⟨_, _, rfl, _⟩ := h
    rfl
  obtain ⟨p, N, rfl, ⟨dk, di, to, ln, dx, hN⟩, k⟩ := h
  have hu := hu_of hr
  refine ssx_nox ?_
  refine ssx_cons (ps_if (pt_not (pt_val (pe_callB (q_isi K) rfl T.f_isinstance bb_isinstance (pa_cons (pv 0) (pa_cons (pe_glob (v := .ref _) rfl T.g_Net rfl) pa_nil))))) SSX.ps SSX.ps) ?_
  walk_at "w"
  refine isi_own T hN ?_
  walk_at "w"
  refine ssx_nil (ssx_nil ?_)
  exact k
end
abbrev N_Net_check_standing : List Str := ["self", "standing", "name"]
theorem sc_Net_check_standing : FnScope N_Net_check_standing ["self", "standing"] (defScope s_Net_check_standing) := ⟨rfl, rfl, rfl, by decide +kernel, rfl, by decide +kernel, by decide +kernel⟩
section
variable {P : Program} {w : World} {K : PySem.W.Frag} {mg : Str → Option Value} {base : Heap}
theorem ok_Net_check_standing (T : TX K mg) : Fok P w K mg base (L2.CX P w) 2 (He.ma K (He.ga K "Net") "check_standing") ["self", "standing"] [] (spCheckStanding K) := by
  obtain ⟨fd, F⟩ := T.fn_Net_check_standing
  refine ⟨⟨fd, [], ?_, F.bindsN fun _ _ _ _ _ _ us hl => match us, hl with | [_, _], _ => rfl, .nil⟩, F.kp⟩
  refine F.ok sc_Net_check_standing (fun vs H Q E h => ?_) (fun cdv A outer s H vs Q E hr h => ?_)
  · obtain ⟨_, _, _, rfl, _⟩ := h
    rfl
  obtain ⟨p, N, x, rfl, hA, hok, k⟩ := h
  obtain ⟨dk, di, to, ln, dx, hN⟩ := id hA
  have hu := hu_of hr
  have O_is_number := @ok_is_number P w K mg base T
  have O_Net_front := @ok_Net_front P w K mg base T
  have O_Net_period := @ok_Net_period P w K mg base T
  have hln := hok.len
  obtain ⟨kv, hkv, _⟩ := hN.kn
  show SSX _ _ _ _ _
  refine ssx_cons (ps_if (PW.pt (pw_or (pt_not (pt_val (pe_callB (q_isi K) rfl T.f_isinstance bb_isinstance (pa_cons (pv 1) (pa_cons (pe_bltn (v := .ty "dict") rfl T.f_dict bt_dict rfl) pa_nil))))) (pw_or1 (pt_cmpR op_ne (pe_callB k_lenD rfl T.f_len bb_len (pa_cons (pv 1) pa_nil)) (pe_callB k_lenD rfl T.f_len bb_len (pa_cons (q_fld K (pv 0) rfl) pa_nil)) (nomark _))))) SSX.ps SSX.ps) ?_
  have raise : ∀ (e0 : Str) (j0 : Nat) (p1 p2 p3 p4 : Pos) (rest : List Stmt) (D : Ends) (σ : St) (H' : Hp), Same H H' → (∀ H', Same H H' → E (.ref (He.ga K "BadStanding")) none H') →
      SSX (cxOf (L2.CX P w) P w K mg base N_Net_check_standing "Net.check_standing" (defScope s_Net_check_standing) (He.ma K (He.ga K "Net") "check_standing") cdv A outer s H E)
        (.Raise (some (.Call (.Name "BadStanding" p1) [.Constant (.str e0) j0 p2] [] p3)) none p4 :: rest) D σ H' := by
    intro e0 j0 p1 p2 p3 p4 rest D σ H' s' hE
    refine ssx_cons (ps_raise rfl (takes_of rfl rfl rfl rfl) (pmk_own PySem.F.excBase_ValueError T.e_BadStanding.1 T.g_BadStanding T.e_BadStanding.2.1 (raises_own T.e_BadStanding.2.2.1 T.e_BadStanding.2.2.2) rfl)) ?_
    exact hE _ s'
  rcases k with ⟨a, st, rfl, ⟨ks, hd, hkl, hks, hst⟩, k⟩ | ⟨hb, k⟩
  · walk_at "w"
    refine w_nknots T hN ?_
    walk_at "w"
    refine w_ndtrue (by rw [mapK_len, mapK_len, hkl]) ?_
    refine ssx_nil ?_
    refine ssx_cons (ps_for (passes_of rfl) rfl (qi_list K (q_fld K (pv 0) rfl)) (pg_name (i := 2) sc_Net_check_standing.nd rfl (Or.inl rfl)) SSX.ps) ?_
    walk_at "w"
    refine w_nnames T hN ?_
    refine w_itL (sqL hN.nm) ?_
    refine for_txtL (xs := N.names) (fun i σ H2 => H2 = H ∧ ∃ o, σ = [some (.ref p), some (.ref a), o]) (fun i σ H2 h => by rw [h.1]; exact sqL hN.nm) ⟨rfl, _, rfl⟩ ?_ ?_
    · rintro i y σ H2 hy ⟨rfl, o, rfl⟩
      have hyn := List.mem_of_getElem? hy
      walk_at "w"
      refine ssx_cons (ps_if (PW.pt (pw_or (pt_cmp (pc_dnotin hu (pv 2) (pv 1))) (pw_or1 (pt_not (pt_val (pe_callF O_is_number (hr.mono (by decide)) rfl T.g_is_number pass0 (pa_cons (pe_dget hu (pv 1) (pv 2) (fun _ _ => rfl)) pa_nil))))))) SSX.ps SSX.ps) ?_
      walk_at "w"
      refine w_notinK hd ?_
      refine w_bl ?_
      refine w_ndtrue (hks y hyn) ?_
      walk_at "w"
      refine w_getI hd (hks y hyn) ?_
      walk_at "w"
      refine ⟨_, rfl, .inl ⟨⟨_, rfl⟩, ?_⟩⟩
      walk_at "w"
      refine ssx_nil ?_
      refine ssx_cons (ps_if (pt_not (pt_chain op_le op_lt pe_int (pe_dget hu (pv 1) (pv 2) (fun _ _ => rfl)) (pe_op op_add (pe_methF (pv 0) T.c_Net T.m_Net_front O_Net_front (hr.mono (by decide)) pass0 (pa_cons (pv 2) pa_nil)) (pe_methF (pv 0) T.c_Net T.m_Net_period O_Net_period (hr.mono (by decide)) pass0 (pa_cons (pv 2) pa_nil))))) SSX.ps SSX.ps) ?_
      walk_at "w"
      refine w_getI hd (hks y hyn) ?_
      walk_at "w"
      refine w_nmeth hN ?_
      walk_at "w"
      refine ⟨p, N, y, rfl, hA, hyn, ?_⟩
      walk_at "w"
      refine w_nmeth hN ?_
      walk_at "w"
      refine ⟨p, N, y, rfl, hA, hyn, ?_⟩
      have hlen : N.len y = (N.fr y).length + (N.tn y).length := by unfold NetD.len NetD.rows; rw [List.length_append]
      have := hst y hyn
      walk_at "w"
      exact ssx_nil (ssx_nil ⟨rfl, _, rfl⟩)
    · rintro σ H2 ⟨rfl, o, rfl⟩
      exact ssx_nil k
  · rcases hb with ⟨i, rfl⟩ | ⟨a, ks, f, rfl, hd, hk1, hb⟩
    · walk_at "w"
      exact raise _ _ _ _ _ _ _ _ _ _ (Same.refl _) k
    · walk_at "w"
      refine w_nknots T hN ?_
      walk_at "w"
      by_cases hl : ks.length = N.names.length
      · have hb := hb.resolve_left (fun z => z hl)
        refine w_ndtrue (by rw [mapK_len, mapK_len, hl]) ?_
        refine ssx_nil ?_
        refine ssx_cons (ps_for (passes_of rfl) rfl (qi_list K (q_fld K (pv 0) rfl)) (pg_name (i := 2) sc_Net_check_standing.nd rfl (Or.inl rfl)) SSX.ps) ?_
        walk_at "w"
        refine w_nnames T hN ?_
        refine w_itL (sqL hN.nm) ?_
        refine for_txtL (xs := N.names) (fun i σ H2 => i = 0 ∧ H2 = H ∧ ∃ o, σ = [some (.ref p), some (.ref a), o]) (fun i σ H2 h => by rw [h.2.1]; exact sqL hN.nm) ⟨rfl, rfl, _, rfl⟩ ?_ ?_
        · rintro i y σ H2 hy ⟨rfl, rfl, o, rfl⟩
          have hyn := List.mem_of_getElem? hy
          obtain rfl : y = "a" := by
            obtain ⟨n, h1, _, e⟩ := hok.nm
            rw [e] at hy
            match n, h1 with
            | n + 1, _ => simpa using hy.symm
          walk_at "w"
          refine ssx_cons (ps_if (PW.pt (pw_or (pt_cmp (pc_dnotin hu (pv 2) (pv 1))) (pw_or1 (pt_not (pt_val (pe_callF O_is_number (hr.mono (by decide)) rfl T.g_is_number pass0 (pa_cons (pe_dget hu (pv 1) (pv 2) (fun _ _ => rfl)) pa_nil))))))) SSX.ps SSX.ps) ?_
          walk_at "w"
          refine w_notinK hd ?_
          refine w_bl ?_
          refine w_ndtrue hb.1 ?_
          walk_at "w"
          refine w_getI hd hb.1 ?_
          walk_at "w"
          refine ⟨_, rfl, .inl ⟨⟨_, rfl⟩, ?_⟩⟩
          walk_at "w"
          refine ssx_nil ?_
          refine ssx_cons (ps_if (pt_not (pt_chain op_le op_lt pe_int (pe_dget hu (pv 1) (pv 2) (fun _ _ => rfl)) (pe_op op_add (pe_methF (pv 0) T.c_Net T.m_Net_front O_Net_front (hr.mono (by decide)) pass0 (pa_cons (pv 2) pa_nil)) (pe_methF (pv 0) T.c_Net T.m_Net_period O_Net_period (hr.mono (by decide)) pass0 (pa_cons (pv 2) pa_nil))))) SSX.ps SSX.ps) ?_
          walk_at "w"
          refine w_getI hd hb.1 ?_
          have hlen : N.len "a" = (N.fr "a").length + (N.tn "a").length := by unfold NetD.len NetD.rows; rw [List.length_append]
          have hb2 := hb.2
          walk_at "w"
          refine w_dcases (fun h0 => ?_) fun h0 => ?_
          · walk_at "w"
            refine w_nmeth hN ?_
            walk_at "w"
            refine ⟨p, N, _, rfl, hA, hyn, ?_⟩
            walk_at "w"
            refine w_nmeth hN ?_
            walk_at "w"
            refine ⟨p, N, _, rfl, hA, hyn, ?_⟩
            walk_at "w"
            exact raise _ _ _ _ _ _ _ _ _ _ (Same.refl _) k
          · walk_at "w"
            exact raise _ _ _ _ _ _ _ _ _ _ (Same.refl _) k
        · rintro σ H2 ⟨h0, _⟩
          omega
      · refine w_ndfalse (by rw [mapK_len, mapK_len]; simp only [V.int.injEq]; omega) ?_
        exact raise _ _ _ _ _ _ _ _ _ _ (Same.refl _) k
end
end K1
namespace K1
open PySem PySem.Spec L2
open PyProof.Rows hiding St
local macro_rules | `(tactic| walk_at "hp") => `(tactic| first | assumption | exact upd_same | (refine' Same.to ?wse ?wsh; (case wse => assumption); (case wsh => walk_at "hp")) | ((rw [upd_ne (by first | assumption | (apply Ne.symm; assumption))]); walk_at "hp"))
local macro_rules | `(tactic| walk_at "sq") => `(tactic| first | assumption | exact sqL (by walk_at "hp") | exact sqT (by walk_at "hp") | (refine' Same.seqTo ?wse ?wsh; (case wse => assumption); (case wsh => walk_at "sq")) | (refine' Same.sqtTo ?wse ?wsh; (case wse => assumption); (case wsh => walk_at "sq")))
local macro_rules | `(tactic| walk_at "w1") => `(tactic| first
  | with_reducible refine w_asg ?_
  | with_reducible refine w_c ?_
  | with_reducible refine w_gname ?_
  | with_reducible refine w_if ?_
  | with_reducible refine w_ifs ?_
  | with_reducible refine w_test ?_
  | with_reducible refine w_tB ?_
  | with_reducible refine w_bl ?_
  | with_reducible refine w_op ?_
  | with_reducible refine w_nil ?_
  | with_reducible refine w_cons ?_
  | with_reducible refine w_cb ?_
  | with_reducible refine w_I0 ?_
  | with_reducible refine w_lst ?_
  | with_reducible refine w_tup ?_
  | with_reducible refine w_sl ?_
  | with_reducible refine w_noPart ?_
  | with_reducible refine w_part ?_
  | with_reducible refine w_int ?_
  | with_reducible refine w_par ?_
  | with_reducible refine w_two ?_
  | with_reducible refine w_par3 ?_
  | with_reducible refine w_three ?_
  | with_reducible refine w_ret ?_
  | with_reducible refine w_drop ?_
  | with_reducible refine w_chain ?_
  | with_reducible refine w_and ?_
  | with_reducible refine w_or ?_
  | with_reducible refine w_not ?_
  | with_reducible refine w_notV ?_
  | with_reducible refine w_andV ?_
  | with_reducible refine w_orV ?_
  | with_reducible refine w_int1 ?_
  | with_reducible refine w_true ?_
  | with_reducible refine w_false ?_
  | with_reducible refine w_for ?_
  | with_reducible refine w_rng1 ?_
  | with_reducible refine w_rng2 ?_
  | with_reducible refine w_iList ?_
  | with_reducible refine w_iTup ?_
  | with_reducible refine w_dget ?_
  | with_reducible refine w_din ?_
  | with_reducible refine w_dnotin ?_
  | with_reducible refine w_dput ?_
  | with_reducible refine w_dget2 ?_
  | with_reducible refine w_fld ?_
  | with_reducible refine w_dnew ?_
  | with_reducible refine w_lc ?_
  | with_reducible refine w_dc ?_
  | with_reducible refine w_iStr ?_
  | with_reducible refine w_str ?_
  | with_reducible refine w_iEnum ?_
  | with_reducible refine w_iZip ?_
  | with_reducible refine w_yes ?_
  | with_reducible refine w_gtup ?_
  | with_reducible refine w_gcons ?_
  | with_reducible refine w_rcons ?_
  | with_reducible refine w_gnil ?_
  | with_reducible refine w_leS ?_
  | with_reducible refine w_isN ?_
  | with_reducible refine w_notN ?_
  | with_reducible refine w_call ?_
  | with_reducible refine w_meth ?_
  | with_reducible refine w_bm ?_
  | with_reducible refine w_bm0 ?_
  | with_reducible refine isi_int ?_
  | with_reducible refine isi_bl_int ?_
  | with_reducible refine isi_int_bl ?_
  | with_reducible refine isi_bl ?_
  | with_reducible refine isi_str ?_
  | with_reducible refine isi_non_dict ?_
  | with_reducible refine isi_int_dict ?_
  | with_reducible refine w_ntrue ?_
  | with_reducible refine w_nfalse ?_
  | with_reducible refine w_wt ?_
  | with_reducible refine w_starD ?_
  | with_reducible refine w_starT ?_
  | with_reducible refine w_listVals ?_
  | with_reducible refine w_iEnumT ?_
  | with_reducible refine w_iEnumS ?_
  | with_reducible refine w_enumS ?_
  | with_reducible refine w_frz ?_
  | with_reducible refine w_iItems ?_
  | with_reducible refine w_iKeys ?_
  | with_reducible refine w_iVals ?_
  | with_reducible refine w_strS ?_
  | with_reducible refine w_daug ?_
  | with_reducible refine w_rAdd ?_
  | with_reducible refine w_sfld ?_
  | ((with_reducible refine' w_var ?wsd ?_); (case wsd => first | rfl | assumption))
  | ((with_reducible refine' w_eq ?wsd ?_); (case wsd => rfl))
  | ((with_reducible refine' w_ne ?wsd ?_); (case wsd => rfl))
  | ((with_reducible refine' w_lenL ?wsd ?_); (case wsd => walk_at "sq"))
  | ((with_reducible refine' w_lenT ?wsd ?_); (case wsd => walk_at "sq"))
  | ((with_reducible refine' w_itL ?wsd ?_); (case wsd => walk_at "sq"))
  | ((with_reducible refine' w_itT ?wsd ?_); (case wsd => walk_at "sq"))
  | ((with_reducible refine' w_rng1v ?wsd ?_); (case wsd => omega))
  | ((with_reducible refine' w_rng2v ?wsd ?_); (case wsd => omega))
  | ((with_reducible refine' w_I ?wsd ?_); (case wsd => walk_at "side"))
  | ((with_reducible refine' w_dtrue ?wsd ?_); (case wsd => first | assumption | omega | rfl | decide))
  | ((with_reducible refine' w_dfalse ?wsd ?_); (case wsd => first | assumption | omega | decide))
  | ((with_reducible refine' w_ndtrue ?wsd ?_); (case wsd => first | assumption | omega | rfl | decide))
  | ((with_reducible refine' w_ndfalse ?wsd ?_); (case wsd => first | assumption | omega | decide))
  | ((with_reducible refine' w_stD ?wsd ?_); (case wsd => walk_at "hp"))
  | ((with_reducible refine' w_stT ?wsd ?_); (case wsd => walk_at "sq"))
  | ((with_reducible refine' w_stL ?wsd ?_); (case wsd => walk_at "sq"))
  | ((with_reducible refine' w_isD ?wsd ?_); (case wsd => walk_at "hp"))
  | ((with_reducible refine' isi_tup ?wsd ?_); (case wsd => walk_at "sq"))
  | ((with_reducible refine' isi_dict ?wsd ?_); (case wsd => walk_at "hp"))
  | ((with_reducible refine' w_lenDv ?wsd ?_); (case wsd => walk_at "hp"))
  | ((with_reducible refine' w_enum ?wsd ?_); (case wsd => walk_at "sq"))
  | ((with_reducible refine' w_enumT ?wsd ?_); (case wsd => walk_at "sq"))
  | ((with_reducible refine' w_tyL ?wsd ?_); (case wsd => walk_at "sq")))
local macro_rules | `(tactic| walk_at "side") => `(tactic| first | omega | decide | (constructor <;> omega) | (constructor <;> decide) | (simp only [List.length_map, List.length_append, List.length_cons, List.length_nil, CDivN, CMul, CPow]; first | omega | decide | (constructor <;> omega)))
local macro_rules | `(tactic| walk_at "w") => `(tactic| repeat (walk_at "w1"))
abbrev N_check_balls : List Str := ["net", "balls", "found", "name", "knot", "one"]
theorem sc_check_balls : FnScope N_check_balls ["net", "balls"] (defScope s_check_balls) := ⟨rfl, rfl, rfl, by decide +kernel, rfl, by decide +kernel, by decide +kernel⟩
theorem sm_perm (f : Str → Nat) {xs ys : List Str} (h : xs.Perm ys) : NetD.sm f xs = NetD.sm f ys := by
  induction h with
  | nil => rfl
  | cons x _ ih => simp only [NetD.sm, ih]
  | swap x y l => simp only [NetD.sm]; omega
  | trans _ _ h1 h2 => exact h1.trans h2
theorem sm_snoc (f : Str → Nat) (xs : List Str) (x : Str) : NetD.sm f (xs ++ [x]) = NetD.sm f xs + f x := by
  induction xs with
  | nil => simp [NetD.sm]
  | cons y xs ih => simp only [List.cons_append, NetD.sm, ih]; omega
theorem kn_in {N : NetD} (h : N.Ok) {k : Str} (hk : k = "i" ∨ k = "j" ∨ k ∈ N.names) : kn N k ∈ N.names := by
  unfold kn inl
  by_cases h1 : k = "i"
  · rw [if_pos (.inl h1), if_pos h1]; exact h.a_in
  · by_cases h2 : k = "j"
    · rw [if_pos (.inr h2), if_neg h1]; exact h.jk
    · rw [if_neg (by intro z; exact z.elim h1 h2)]
      rcases hk with z | z | z
      · exact absurd z h1
      · exact absurd z h2
      · exact z
theorem ij_mem {k : Str} : k ∈ (["i", "j"] : List Str) ↔ k = "i" ∨ k = "j" := by simp
theorem up_kn {N : NetD} {kk y : Str} (hkk : kk = kn N y) {g : Str → Int} {b : Int} {x : Str} : up g kk (g kk + b) x = g x + if kn N y = x then b else 0 := by
  subst hkk
  by_cases e : x = kn N y
  · rw [e, if_pos rfl]; exact NetD.up_same
  · rw [if_neg (Ne.symm e), show up g (kn N y) (g (kn N y) + b) x = g x from NetD.up_ne e]; omega
section
variable {P : Program} {w : World} {K : PySem.W.Frag} {mg : Str → Option Value} {base : Heap}
theorem ok_check_balls (T : TX K mg) : Fok P w K mg base (L2.CX P w) 2 (He.ga K "check_balls") ["net", "balls"] [] (spCheckBalls K) := by
  obtain ⟨fd, F⟩ := T.fn_check_balls
  refine ⟨⟨fd, [], ?_, F.bindsN fun _ _ _ _ _ _ us hl => match us, hl with | [_, _], _ => rfl, .nil⟩, F.kp⟩
  refine F.ok sc_check_balls (fun vs H Q E h => ?_) (fun cdv A outer s H vs Q E hr h => ?_)
  · obtain ⟨_, _, _, rfl, _⟩ := h
    rfl
  obtain ⟨p, N, x, rfl, ⟨dk, di, to, ln, dx, hN⟩, hok, k⟩ := h
  have hu := hu_of hr
  have O_is_number := @ok_is_number P w K mg base T
  obtain ⟨kv, hkv, _⟩ := id hN.kn
  have raise : ∀ (e0 : Str) (j0 : Nat) (p1 p2 p3 p4 : Pos) (rest : List Stmt) (D : Ends) (σ : St) (H' : Hp), Same H H' → (∀ H', Same H H' → E (.ref (He.ga K "BadBalls")) none H') →
      SSX (cxOf (L2.CX P w) P w K mg base N_check_balls "check_balls" (defScope s_check_balls) (He.ga K "check_balls") cdv A outer s H E)
        (.Raise (some (.Call (.Name "BadBalls" p1) [.Constant (.str e0) j0 p2] [] p3)) none p4 :: rest) D σ H' := by
    intro e0 j0 p1 p2 p3 p4 rest D σ H' s' hE
    refine ssx_cons (ps_raise rfl (takes_of rfl rfl rfl rfl) (pmk_own PySem.F.excBase_ValueError T.e_BadBalls.1 T.g_BadBalls T.e_BadBalls.2.1 (raises_own T.e_BadBalls.2.2.1 T.e_BadBalls.2.2.2) rfl)) ?_
    exact hE _ s'
  show SSX _ _ _ _ _
  refine ssx_cons (ps_if (pt_not (pt_val (pe_callB (q_isi K) rfl T.f_isinstance bb_isinstance (pa_cons (pv 1) (pa_cons (pe_bltn (v := .ty "dict") rfl T.f_dict bt_dict rfl) pa_nil))))) SSX.ps SSX.ps) ?_
  have key : (∃ a ks vf, x = .ref a ∧ H a = some (.dK (mapK ks vf)) ∧ ks.length ≤ 10 ∧ (∀ k ∈ ks, PyData.strOk k = true) ∧ ((BadBl H x N ∧ ks.length = 1 ∧ ∀ H', Same H H' → E (.ref (He.ga K "BadBalls")) none H') ∨
      ∃ bl : Str → Nat, (vf = fun k => .int (bl k : Int)) ∧ (∀ k ∈ ks, k = "i" ∨ k = "j" ∨ k ∈ N.names) ∧ ∀ d ws H', Same H H' → H d = none → ws.Nodup → (∀ k ∈ ws, k ∈ N.names) → Zr ws (fun k => (bsum N bl ks k : Int)) → H' d = some (DI ws fun k => (bsum N bl ks k : Int)) → Q (.ref d) H')) ∨
      (x = .non ∧ ∀ H', Same H H' → E (.ref (He.ga K "BadBalls")) none H') := by
    rcases k with ⟨a, ks, bl, rfl, ⟨h1, h2, h3⟩, k⟩ | ⟨hb, k⟩
    · exact .inl ⟨a, ks, _, rfl, h1, h2, fun k hk => (h3 k hk).1, .inr ⟨bl, rfl, fun k hk => (h3 k hk).2, k⟩⟩
    · rcases id hb with rfl | ⟨a, k0, v, rfl, h1, h2, h3⟩
      · exact .inr ⟨rfl, k⟩
      · exact .inl ⟨a, [k0], _, rfl, h1, by simp, fun k hk => by rw [List.mem_singleton.mp hk]; exact h2, .inl ⟨hb, rfl, k⟩⟩
  clear k
  rcases key with ⟨a, ks, vf, rfl, hd, hkl, hso, k⟩ | ⟨rfl, k⟩
  rotate_left
  · walk_at "w"
    exact raise _ _ _ _ _ _ _ _ _ _ (Same.refl _) k
  walk_at "w"
  refine ssx_nil ?_
  refine ssx_cons (ps_set (i := 2) sc_check_balls.nd rfl (Or.inl rfl) pe_dnewK) ?_
  walk_at "w"
  refine w_new fun d H1 hd0 s1 h1 => ?_
  walk_at "w"
  have h1a := s1 _ _ hd
  refine ssx_cons (ps_for (passes_of rfl) rfl (qi_list K (pe_callB (q_sortS K) rfl T.f_sorted bb_sorted (pa_cons (pe_lock (pe_lc (own := [("one", 5)]) rfl sc_check_balls.nd (pi_keys (pv 1)) (blkOk_by (N := N_check_balls) (sc := defScope s_check_balls) (by decide +kernel)) (fun _ _ _ _ _ => (pg_name (i := 5) sc_check_balls.nd rfl (Or.inl rfl))) (fun _ _ _ _ _ => pts_nil) (fun _ _ _ _ _ => (pe_callTy k_str rfl T.f_str bt_str (pa_cons (pv 5) pa_nil))))) pa_nil))) (pg_name (i := 3) sc_check_balls.nd rfl (Or.inl rfl)) SSX.ps) ?_
  walk_at "w"
  refine w_lockE h1a fun od => ?_
  walk_at "w"
  refine w_kys frz_at ?_
  refine rlcV walk_ks (fun i acc => acc = (ks.take i).map V.str) (by omega) (fun H' s' => s' _ _ frz_at) rfl ?_ ?_
  · rintro i acc y H2 _ hi _ s2 rfl ⟨rfl, k0, hk0, rfl⟩ KT KF hKT _
    walk_at "w"
    refine ⟨rfl, ?_⟩
    walk_at "w"
    exact hKT _ _ (Same.refl _) (by rw [take_snoc hk0]; simp)
  · rintro l acc H2 hl s2 h2 _ rfl
    rw [List.take_length] at h2
    refine ⟨s2 _ _ frz_at, ?_⟩
    have hla : l ≠ a := fun z => by rw [z, upd_same] at hl; cases hl
    have hl1 : H1 l = none := by rw [upd_ne hla] at hl; exact hl
    have s3 : Same H1 (upd H2 a (.dK (mapK ks vf))) := Same.unlock h1a s2
    have h3 : upd H2 a (.dK (mapK ks vf)) l = some (.lst (ks.map V.str)) := by rw [upd_ne hla]; exact h2
    generalize upd H2 a (.dK (mapK ks vf)) = H3 at *
    walk_at "w"
    refine w_sortP (sqL h3) (by omega) fun ys q H4 hys hq s4 h4 => ?_
    walk_at "w"
    have s14 := s3.trans s4
    have s04 := s1.trans s14
    have hdl : ys.length = ks.length := hys.length_eq
    have hqd : q ≠ d := fun z => by rw [z, s3 _ _ h1] at hq; cases hq
    rcases k with ⟨hb, hk1, k⟩ | ⟨bl, rfl, hkm, k⟩
    · refine for_txtL (xs := ys) (fun i σ H5 => i = 0 ∧ H5 = H4 ∧ ∃ o3 o4, σ = [some (.ref p), some (.ref a), some (.ref d), o3, o4, none]) (fun i σ H5 h => by rw [h.2.1]; exact sqL h4) ⟨rfl, rfl, _, _, rfl⟩ ?_ ?_
      · rintro i y σ H5 hy ⟨rfl, rfl, o3, o4, rfl⟩
        have hyk : y ∈ ks := hys.mem_iff.mp (List.mem_of_getElem? hy)
        have hN5 := hN.same s04
        rcases hb with hb | ⟨a', k0, v, ea, ed, _, hb⟩
        · cases hb
        cases ea
        rw [hd] at ed
        obtain ⟨e1, e2⟩ : ks = [k0] ∧ vf k0 = v := by
          injection ed with ed
          injection ed with ed
          have hk : ks = [k0] := by
            have := congrArg (List.map Prod.fst) ed
            simp only [mapK, List.map_map, Function.comp_def, List.map_cons, List.map_nil] at this
            match ks, hk1, this with
            | [z], _, this => simp at this; rw [this]
          subst hk
          simp [mapK] at ed
          exact ⟨rfl, ed⟩
        subst e1
        obtain rfl := List.mem_singleton.mp hyk
        subst e2
        walk_at "w"
        refine ssx_cons (ps_if (PW.pt (pw_or (pt_cmp (pc_dnotin hu (pv 3) (pv 1))) (pw_or1 (PW.pt (pw_and (pt_cmp (pc_dnotin hu (pv 3) (q_fld K (pv 0) rfl))) (pw_and1 (pt_cmp (pc_dnotin hu (pv 3) (q_fld K (pv 0) rfl))))))))) SSX.ps SSX.ps) ?_
        walk_at "w"
        refine w_notinK (s04 _ _ hd) ?_
        refine w_bl ?_
        refine w_ndtrue hyk ?_
        walk_at "w"
        refine w_ninlets T hN5 ?_
        refine w_notinK hN5.il ?_
        walk_at "w"
        refine w_ndcases (fun hij => ?_) fun hij => ?_
        rotate_left
        walk_at "w"
        refine w_nknots T hN5 ?_
        refine w_notinK (s04 _ _ hkv) ?_
        walk_at "w"
        refine w_ndcases (fun hyn => ?_) fun hyn => ?_
        rotate_left
        exact raise _ _ _ _ _ _ _ _ _ _ s04 k
        all_goals
          have hyn3 : y = "i" ∨ y = "j" ∨ y ∈ N.names := by first | exact .inr (.inr hyn) | exact (ij_mem.mp hij).elim .inl fun z => .inr (.inl z)
          walk_at "w"
          refine ssx_nil ?_
          refine ssx_cons (ps_if (PW.pt (pw_or (pt_not (pt_val (pe_callF O_is_number (hr.mono (by decide)) rfl T.g_is_number pass0 (pa_cons (pe_dget hu (pv 1) (pv 3) (fun _ _ => rfl)) pa_nil)))) (pw_or1 (pt_cmpR op_lt (pe_dget hu (pv 1) (pv 3) (fun _ _ => rfl)) pe_int (nomark _))))) SSX.ps SSX.ps) ?_
          walk_at "w"
          refine w_getK (s04 _ _ hd) hyk ?_
          walk_at "w"
          rcases hb with hb | ⟨b, hb⟩ | ⟨i, hb, hi⟩
          · exact absurd hyn3 (fun z => hb.1 (z.elim .inl fun z => .inr (z.resolve_right hb.2)))
          · rw [hb]
            refine ⟨_, rfl, .inr ⟨⟨_, rfl⟩, ?_⟩⟩
            walk_at "w"
            exact raise _ _ _ _ _ _ _ _ _ _ s04 k
          · rw [hb]
            refine ⟨_, rfl, .inl ⟨⟨_, rfl⟩, ?_⟩⟩
            walk_at "w"
            refine w_getK (s04 _ _ hd) hyk ?_
            rw [hb]
            walk_at "w"
            exact raise _ _ _ _ _ _ _ _ _ _ s04 k
      · rintro σ H5 ⟨h0, _⟩
        omega
    · have hkm' : ∀ y ∈ ys, y = "i" ∨ y = "j" ∨ y ∈ N.names := fun y h => hkm y (hys.mem_iff.mp h)
      have hbs : ∀ x, bsum N bl ys x = bsum N bl ks x := fun x => sm_perm _ hys
      refine for_txtL (xs := ys) (fun i σ H5 => ∃ (ws : List Str) (g : Str → Int) (o3 o4 : Option V), σ = [some (.ref p), some (.ref a), some (.ref d), o3, o4, none] ∧ Same H H5 ∧ H5 q = some (.lst (ys.map V.str)) ∧ H5 d = some (DI ws g) ∧ Zr ws g ∧ ws.Nodup ∧ (∀ k ∈ ws, k ∈ N.names) ∧ ws.length ≤ i ∧ ∀ x, g x = (bsum N bl (ys.take i) x : Int)) (fun i σ H5 h => by obtain ⟨_, _, _, _, _, _, h, _⟩ := h; exact sqL h) ?_ ?_ ?_
      · exact ⟨[], fun _ => 0, _, _, rfl, s04, h4, s14 _ _ h1, fun _ _ => rfl, .nil, by simp, by simp, fun x => rfl⟩
      · rintro i y σ H5 hy ⟨ws, g, o3, o4, rfl, s5, h5q, h5d, hz, hnd, hwn, hwl, hg⟩
        have hyk : y ∈ ks := hys.mem_iff.mp (List.mem_of_getElem? hy)
        have hyn3 := hkm y hyk
        have hN5 := hN.same s5
        obtain ⟨hi, _⟩ := List.getElem?_eq_some_iff.mp hy
        walk_at "w"
        refine ssx_cons (ps_if (PW.pt (pw_or (pt_cmp (pc_dnotin hu (pv 3) (pv 1))) (pw_or1 (PW.pt (pw_and (pt_cmp (pc_dnotin hu (pv 3) (q_fld K (pv 0) rfl))) (pw_and1 (pt_cmp (pc_dnotin hu (pv 3) (q_fld K (pv 0) rfl))))))))) SSX.ps SSX.ps) ?_
        walk_at "w"
        refine w_notinK (s5 _ _ hd) ?_
        refine w_bl ?_
        refine w_ndtrue hyk ?_
        walk_at "w"
        refine w_ninlets T hN5 ?_
        refine w_notinK hN5.il ?_
        walk_at "w"
        refine w_ndcases (fun hij => ?_) fun hij => ?_
        rotate_left
        walk_at "w"
        refine w_nknots T hN5 ?_
        refine w_notinK (s5 _ _ hkv) ?_
        walk_at "w"
        refine w_ndcases (fun hyn => ?_) fun hyn => ?_
        rotate_left
        exact absurd (ij_mem.mpr (hyn3.elim .inl fun z => .inr (z.resolve_right hyn))) hij
        all_goals
          walk_at "w"
          refine ssx_nil ?_
          refine ssx_cons (ps_if (PW.pt (pw_or (pt_not (pt_val (pe_callF O_is_number (hr.mono (by decide)) rfl T.g_is_number pass0 (pa_cons (pe_dget hu (pv 1) (pv 3) (fun _ _ => rfl)) pa_nil)))) (pw_or1 (pt_cmpR op_lt (pe_dget hu (pv 1) (pv 3) (fun _ _ => rfl)) pe_int (nomark _))))) SSX.ps SSX.ps) ?_
          walk_at "w"
          refine w_getK (s5 _ _ hd) hyk ?_
          walk_at "w"
          refine ⟨_, rfl, .inl ⟨⟨_, rfl⟩, ?_⟩⟩
          walk_at "w"
          refine w_getK (s5 _ _ hd) hyk ?_
          walk_at "w"
          refine ssx_nil ?_
          refine ssx_cons (ps_set (i := 4) sc_check_balls.nd rfl (Or.inl rfl) (pe_ifExp (pt_cmp (pc_din hu (pv 3) (q_fld K (pv 0) rfl))) (pe_dget hu (q_fld K (pv 0) rfl) (pv 3) (fun _ _ => rfl)) (pv 3))) ?_
          walk_at "w"
          refine w_ninlets T hN5 ?_
          refine w_inK hN5.il ?_
          walk_at "w"
          first
            | (have hkk : inl N y = kn N y := (if_pos (ij_mem.mp hij)).symm
               refine w_ninlets T hN5 ?_
               walk_at "w"
               refine w_getK hN5.il hij ?_)
            | (have hkk : y = kn N y := (if_neg fun z => hij (ij_mem.mpr z)).symm)
          walk_at "w"
          refine ssx_cons (ps_dput hu (pv 2) (pv 4) (pe_op op_add (pe_dget2 hu (pv 2) (pv 4) pe_int ⟨rfl, rfl, rfl, rfl⟩) (pe_dget hu (pv 1) (pv 3) (fun _ _ => rfl))) rfl) ?_
          walk_at "w"
          refine w_getOI h5d hz ?_
          walk_at "w"
          refine w_getK (s5 _ _ hd) hyk ?_
          walk_at "w"
          refine w_putI h5d (by omega) ?_
          refine ssx_nil ⟨_, _, _, _, rfl, Same.mut s5 hd0, by rw [upd_ne hqd]; exact h5q, upd_same, hz.put _ _, ins_nodup hnd, fun x hx => ?_, Nat.le_trans ins_len (by omega), fun x => ?_⟩
          · rcases ins_mem.mp hx with z | z
            · exact hwn x z
            · exact z ▸ (hkk.symm ▸ kn_in hok hyn3)
          · rw [take_snoc hy, show bsum N bl (ys.take i ++ [y]) x = bsum N bl (ys.take i) x + (if kn N y = x then bl y else 0) from sm_snoc _ _ _, up_kn hkk, hg]
            split <;> omega
      · rintro σ H5 ⟨ws, g, o3, o4, rfl, s5, h5q, h5d, hz, hnd, hwn, hwl, hg⟩
        refine ssx_cons (ps_ret (pv 2)) ?_
        walk_at "w"
        rw [List.take_length] at hg
        have eg : g = fun x => (bsum N bl ks x : Int) := funext fun x => by rw [hg, hbs]
        subst eg
        exact k d ws H5 s5 hd0 hnd hwn hz h5d
end
end K1
namespace K1
open PySem PySem.Spec L2
open PyProof.Rows hiding St
local macro_rules | `(tactic| walk_at "hp") => `(tactic| first | assumption | exact upd_same | (refine' Same.to ?wse ?wsh; (case wse => assumption); (case wsh => walk_at "hp")) | ((rw [upd_ne (by first | assumption | (apply Ne.symm; assumption))]); walk_at "hp"))
local macro_rules | `(tactic| walk_at "sq") => `(tactic| first | assumption | exact sqL (by walk_at "hp") | exact sqT (by walk_at "hp") | (refine' Same.seqTo ?wse ?wsh; (case wse => assumption); (case wsh => walk_at "sq")) | (refine' Same.sqtTo ?wse ?wsh; (case wse => assumption); (case wsh => walk_at "sq")))
local macro_rules | `(tactic| walk_at "w1") => `(tactic| first
  | with_reducible refine w_asg ?_
  | with_reducible refine w_c ?_
  | with_reducible refine w_gname ?_
  | with_reducible refine w_if ?_
  | with_reducible refine w_ifs ?_
  | with_reducible refine w_test ?_
  | with_reducible refine w_tB ?_
  | with_reducible refine w_bl ?_
  | with_reducible refine w_op ?_
  | with_reducible refine w_nil ?_
  | with_reducible refine w_cons ?_
  | with_reducible refine w_cb ?_
  | with_reducible refine w_I0 ?_
  | with_reducible refine w_lst ?_
  | with_reducible refine w_tup ?_
  | with_reducible refine w_sl ?_
  | with_reducible refine w_noPart ?_
  | with_reducible refine w_part ?_
  | with_reducible refine w_int ?_
  | with_reducible refine w_par ?_
  | with_reducible refine w_two ?_
  | with_reducible refine w_par3 ?_
  | with_reducible refine w_three ?_
  | with_reducible refine w_ret ?_
  | with_reducible refine w_drop ?_
  | with_reducible refine w_chain ?_
  | with_reducible refine w_and ?_
  | with_reducible refine w_or ?_
  | with_reducible refine w_not ?_
  | with_reducible refine w_notV ?_
  | with_reducible refine w_andV ?_
  | with_reducible refine w_orV ?_
  | with_reducible refine w_int1 ?_
  | with_reducible refine w_true ?_
  | with_reducible refine w_false ?_
  | with_reducible refine w_for ?_
  | with_reducible refine w_rng1 ?_
  | with_reducible refine w_rng2 ?_
  | with_reducible refine w_iList ?_
  | with_reducible refine w_iTup ?_
  | with_reducible refine w_dget ?_
  | with_reducible refine w_din ?_
  | with_reducible refine w_dnotin ?_
  | with_reducible refine w_dput ?_
  | with_reducible refine w_dget2 ?_
  | with_reducible refine w_fld ?_
  | with_reducible refine w_dnew ?_
  | with_reducible refine w_lc ?_
  | with_reducible refine w_dc ?_
  | with_reducible refine w_iStr ?_
  | with_reducible refine w_str ?_
  | with_reducible refine w_iEnum ?_
  | with_reducible refine w_iZip ?_
  | with_reducible refine w_yes ?_
  | with_reducible refine w_gtup ?_
  | with_reducible refine w_gcons ?_
  | with_reducible refine w_rcons ?_
  | with_reducible refine w_gnil ?_
  | with_reducible refine w_leS ?_
  | with_reducible refine w_isN ?_
  | with_reducible refine w_notN ?_
  | with_reducible refine w_call ?_
  | with_reducible refine w_meth ?_
  | with_reducible refine w_bm ?_
  | with_reducible refine w_bm0 ?_
  | with_reducible refine isi_int ?_
  | with_reducible refine isi_bl_int ?_
  | with_reducible refine isi_int_bl ?_
  | with_reducible refine isi_bl ?_
  | with_reducible refine isi_str ?_
  | with_reducible refine isi_non_dict ?_
  | with_reducible refine isi_int_dict ?_
  | with_reducible refine w_ntrue ?_
  | with_reducible refine w_nfalse ?_
  | with_reducible refine w_wt ?_
  | with_reducible refine w_starD ?_
  | with_reducible refine w_starT ?_
  | with_reducible refine w_listVals ?_
  | with_reducible refine w_iEnumT ?_
  | with_reducible refine w_iEnumS ?_
  | with_reducible refine w_enumS ?_
  | with_reducible refine w_frz ?_
  | with_reducible refine w_iItems ?_
  | with_reducible refine w_iKeys ?_
  | with_reducible refine w_iVals ?_
  | with_reducible refine w_strS ?_
  | with_reducible refine w_daug ?_
  | with_reducible refine w_rAdd ?_
  | with_reducible refine w_sfld ?_
  | ((with_reducible refine' w_var ?wsd ?_); (case wsd => first | rfl | assumption))
  | ((with_reducible refine' w_eq ?wsd ?_); (case wsd => rfl))
  | ((with_reducible refine' w_ne ?wsd ?_); (case wsd => rfl))
  | ((with_reducible refine' w_lenL ?wsd ?_); (case wsd => walk_at "sq"))
  | ((with_reducible refine' w_lenT ?wsd ?_); (case wsd => walk_at "sq"))
  | ((with_reducible refine' w_itL ?wsd ?_); (case wsd => walk_at "sq"))
  | ((with_reducible refine' w_itT ?wsd ?_); (case wsd => walk_at "sq"))
  | ((with_reducible refine' w_rng1v ?wsd ?_); (case wsd => omega))
  | ((with_reducible refine' w_rng2v ?wsd ?_); (case wsd => omega))
  | ((with_reducible refine' w_I ?wsd ?_); (case wsd => walk_at "side"))
  | ((with_reducible refine' w_dtrue ?wsd ?_); (case wsd => first | assumption | omega | rfl | decide))
  | ((with_reducible refine' w_dfalse ?wsd ?_); (case wsd => first | assumption | omega | decide))
  | ((with_reducible refine' w_ndtrue ?wsd ?_); (case wsd => first | assumption | omega | rfl | decide))
  | ((with_reducible refine' w_ndfalse ?wsd ?_); (case wsd => first | assumption | omega | decide))
  | ((with_reducible refine' w_stD ?wsd ?_); (case wsd => walk_at "hp"))
  | ((with_reducible refine' w_stT ?wsd ?_); (case wsd => walk_at "sq"))
  | ((with_reducible refine' w_stL ?wsd ?_); (case wsd => walk_at "sq"))
  | ((with_reducible refine' w_isD ?wsd ?_); (case wsd => walk_at "hp"))
  | ((with_reducible refine' isi_tup ?wsd ?_); (case wsd => walk_at "sq"))
  | ((with_reducible refine' isi_dict ?wsd ?_); (case wsd => walk_at "hp"))
  | ((with_reducible refine' w_lenDv ?wsd ?_); (case wsd => walk_at "hp"))
  | ((with_reducible refine' w_enum ?wsd ?_); (case wsd => walk_at "sq"))
  | ((with_reducible refine' w_enumT ?wsd ?_); (case wsd => walk_at "sq"))
  | ((with_reducible refine' w_tyL ?wsd ?_); (case wsd => walk_at "sq")))
local macro_rules | `(tactic| walk_at "side") => `(tactic| first | omega | decide | (constructor <;> omega) | (constructor <;> decide) | (simp only [List.length_map, List.length_append, List.length_cons, List.length_nil, CDivN, CMul, CPow]; first | omega | decide | (constructor <;> omega)))
local macro_rules | `(tactic| walk_at "w") => `(tactic| repeat (walk_at "w1"))
abbrev boardF (p st wk od td : Addr) : List (Str × V) := [("net", .ref p), ("standing", .ref st), ("waiting", .ref wk), ("out", .ref od), ("taken", .ref td)]
structure BoardO (K : PySem.W.Frag) (Hn H : Hp) (b : Addr) (N : NetD) (p st wk od td dx : Addr) (w0 p0 u : Str → Nat) : Prop where
  sm : Same Hn H
  net : NetAt K Hn p N
  ob : Hn b = some (.ins (He.ga K "Board") dx (boardF p st wk od td))
  nst : Hn st = none
  nwk : Hn wk = none
  nod : Hn od = none
  ntd : Hn td = none
  ne : st ≠ wk ∧ st ≠ od ∧ st ≠ td ∧ wk ≠ od ∧ wk ≠ td ∧ od ≠ td
  hst : H st = some (DI N.names fun k => (N.plc k (p0 k) (u k) : Int))
  htd : H td = some (DI N.names fun k => (u k : Int))
  hod : H od = some (DI ["o", "p"] fun k => (N.got p0 u k : Int))
  hwk : ∃ ws wf, H wk = some (DI ws wf) ∧ Zr ws wf ∧ ws.Nodup ∧ (∀ k ∈ ws, k ∈ N.names) ∧ ∀ k ∈ N.names, wf k = N.wt w0 p0 u k
  pl : ∀ k ∈ N.names, p0 k < N.len k
section
variable {K : PySem.W.Frag} {mg : Str → Option Value} {Hn H : Hp} {b p st wk od td dx : Addr} {N : NetD} {w0 p0 u : Str → Nat} {Q : VK}
theorem lkb_net : (boardF p st wk od td).lookup ("net" : Str) = some (.ref p) := rfl
theorem lkb_standing : (boardF p st wk od td).lookup ("standing" : Str) = some (.ref st) := by
  have h1 : (("standing" : Str) == "net") = false := by decide +kernel
  have h2 : (("standing" : Str) == "standing") = true := by decide +kernel
  simp [List.lookup, h1, h2]
theorem lkb_waiting : (boardF p st wk od td).lookup ("waiting" : Str) = some (.ref wk) := by
  have h1 : (("waiting" : Str) == "net") = false := by decide +kernel
  have h2 : (("waiting" : Str) == "standing") = false := by decide +kernel
  have h3 : (("waiting" : Str) == "waiting") = true := by decide +kernel
  simp [List.lookup, h1, h2, h3]
theorem lkb_out : (boardF p st wk od td).lookup ("out" : Str) = some (.ref od) := by
  have h1 : (("out" : Str) == "net") = false := by decide +kernel
  have h2 : (("out" : Str) == "standing") = false := by decide +kernel
  have h3 : (("out" : Str) == "waiting") = false := by decide +kernel
  have h4 : (("out" : Str) == "out") = true := by decide +kernel
  simp [List.lookup, h1, h2, h3, h4]
theorem lkb_taken : (boardF p st wk od td).lookup ("taken" : Str) = some (.ref td) := by
  have h1 : (("taken" : Str) == "net") = false := by decide +kernel
  have h2 : (("taken" : Str) == "standing") = false := by decide +kernel
  have h3 : (("taken" : Str) == "waiting") = false := by decide +kernel
  have h4 : (("taken" : Str) == "out") = false := by decide +kernel
  have h5 : (("taken" : Str) == "taken") = true := by decide +kernel
  simp [List.lookup, h1, h2, h3, h4, h5]
theorem lkb_no {m : Str} (h1 : (m == ("net" : Str)) = false) (h2 : (m == ("standing" : Str)) = false) (h3 : (m == ("waiting" : Str)) = false) (h4 : (m == ("out" : Str)) = false) (h5 : (m == ("taken" : Str)) = false) : (boardF p st wk od td).lookup m = none := by
  simp [List.lookup, h1, h2, h3, h4, h5]
theorem w_bnet (T : TX K mg) (h : H b = some (.ins (He.ga K "Board") dx (boardF p st wk od td))) (q : Q (.ref p) H) : RFld K "net" (.ref b) H Q := w_rfld h T.c_Board T.n_Board_net lkb_net q
theorem w_bstanding (T : TX K mg) (h : H b = some (.ins (He.ga K "Board") dx (boardF p st wk od td))) (q : Q (.ref st) H) : RFld K "standing" (.ref b) H Q := w_rfld h T.c_Board T.n_Board_standing lkb_standing q
theorem w_bwaiting (T : TX K mg) (h : H b = some (.ins (He.ga K "Board") dx (boardF p st wk od td))) (q : Q (.ref wk) H) : RFld K "waiting" (.ref b) H Q := w_rfld h T.c_Board T.n_Board_waiting lkb_waiting q
theorem w_bout (T : TX K mg) (h : H b = some (.ins (He.ga K "Board") dx (boardF p st wk od td))) (q : Q (.ref od) H) : RFld K "out" (.ref b) H Q := w_rfld h T.c_Board T.n_Board_out lkb_out q
theorem w_btaken (T : TX K mg) (h : H b = some (.ins (He.ga K "Board") dx (boardF p st wk od td))) (q : Q (.ref td) H) : RFld K "taken" (.ref b) H Q := w_rfld h T.c_Board T.n_Board_taken lkb_taken q
theorem w_bmeth {m : Str} {R : Prop} (h : H b = some (.ins (He.ga K "Board") dx (boardF p st wk od td))) (r : R) (h1 : (m == ("net" : Str)) = false := by decide +kernel) (h2 : (m == ("standing" : Str)) = false := by decide +kernel) (h3 : (m == ("waiting" : Str)) = false := by decide +kernel)
    (h4 : (m == ("out" : Str)) = false := by decide +kernel) (h5 : (m == ("taken" : Str)) = false := by decide +kernel) : RMeth (He.ga K "Board") m (.ref b) H R := w_rmeth h (lkb_no h1 h2 h3 h4 h5) r
theorem putF_new {f : Str} {v : V} : ∀ {fs : List (Str × V)} (ns : List Str), fs.map Prod.fst = ns → ns.contains f = false → putF f v fs = fs ++ [(f, v)]
  | [], _, _, _ => rfl
  | (g, x) :: r, n :: ns, h, h2 => by
    simp only [List.map_cons, List.cons.injEq] at h
    obtain ⟨rfl, h⟩ := h
    have h2' : (f == g || ns.contains f) = false := h2
    rw [Bool.or_eq_false_iff] at h2'
    show (if g = f then _ else _) = _
    rw [if_neg (fun z => by subst z; simp at h2'), putF_new ns h h2'.2]
    rfl
theorem got_zero {x : Str} : N.got p0 (fun _ => 0) x = 0 := by
  unfold NetD.got
  have : ∀ l : List Str, NetD.sm (fun k => N.fall k (p0 k) 0 x) l = 0 := by
    intro l
    induction l with
    | nil => rfl
    | cons a l ih => show N.fall a (p0 a) 0 x + _ = 0; rw [ih]; rfl
  exact this _
theorem wt_zero {x : Str} : N.wt w0 p0 (fun _ => 0) x = (w0 x : Int) := by unfold NetD.wt; rw [got_zero]; show (w0 x : Int) + ((0 : Nat) : Int) - ((0 : Nat) : Int) = _; omega
end
def spBoardInit (K : PySem.W.Frag) : Sp := fun vs H Q _ => ∃ (b p s wt dx : Addr) (N : NetD) (Hn : Hp) (p0 w0 : Str → Nat) (ws : List Str), vs = [.ref b, .ref p, .ref s, .ref wt] ∧ H b = some (.ins (He.ga K "Board") dx []) ∧ Hn b = none ∧ Same Hn H ∧ NetAt K Hn p N ∧ N.Ok ∧ StAt Hn s N p0 ∧
  Hn wt = some (DI ws fun k => (w0 k : Int)) ∧ Zr ws (fun k => (w0 k : Int)) ∧ ws.Nodup ∧ (∀ k ∈ ws, k ∈ N.names) ∧ ∀ st wk od td H', BoardO K (upd Hn b (.ins (He.ga K "Board") dx (boardF p st wk od td))) H' b N p st wk od td dx w0 p0 (fun _ => 0) → Q .non H'
def spFirstWaiting (K : PySem.W.Frag) : Sp := fun vs H Q _ => ∃ (b p st wk od td dx : Addr) (N : NetD) (Hn : Hp) (w0 p0 u : Str → Nat), vs = [.ref b] ∧ BoardO K Hn H b N p st wk od td dx w0 p0 u ∧ N.Ok ∧
  (∀ k l1 l2, N.names = l1 ++ k :: l2 → (∀ y ∈ l1, N.wt w0 p0 u y ≤ 0) → 0 < N.wt w0 p0 u k → Q (.str k) H) ∧ ((∀ k ∈ N.names, N.wt w0 p0 u k ≤ 0) → Q .non H)
abbrev N_Board_init : List Str := ["self", "net", "standing", "waiting", "name"]
theorem sc_Board_init : FnScope N_Board_init ["self", "net", "standing", "waiting"] (defScope s_Board_init) := ⟨rfl, rfl, rfl, by decide +kernel, rfl, by decide +kernel, by decide +kernel⟩
abbrev N_Board_first_waiting : List Str := ["self", "name"]
theorem sc_Board_first_waiting : FnScope N_Board_first_waiting ["self"] (defScope s_Board_first_waiting) := ⟨rfl, rfl, rfl, by decide +kernel, rfl, by decide +kernel, by decide +kernel⟩
section
variable {P : Program} {w : World} {K : PySem.W.Frag} {mg : Str → Option Value} {base : Heap}
theorem ok_Board_init (T : TX K mg) : Fok P w K mg base CX0 1 (He.ma K (He.ga K "Board") "__init__") ["self", "net", "standing", "waiting"] [] (spBoardInit K) := by
  obtain ⟨fd, F⟩ := T.fn_Board_init
  refine ⟨⟨fd, [], ?_, F.bindsN fun _ _ _ _ _ _ us hl => match us, hl with | [_, _, _, _], _ => rfl, .nil⟩, F.kp⟩
  refine F.ok sc_Board_init (fun vs H Q E h => ?_) (fun cdv A outer s H vs Q E hr h => ?_)
  · obtain ⟨_, _, _, _, _, _, _, _, _, _, rfl, _⟩ := h
    rfl
  obtain ⟨b, p, s0, wa, dx, N, Hn, p0, w0, ws, rfl, hb0, hnb, sm0, hnet, hok, ⟨ks, hs0, hkl, hks, hpl⟩, hwa, hzr, hnd, hwn, k⟩ := h
  obtain ⟨dk, di, to, ln, dxn, hN⟩ := id hnet
  have hu := hu_of hr
  have hln := hok.len
  refine ssx_nox ?_
  refine ssx_cons (qs_fld K (pv 0) (pv 1) rfl) ?_
  walk_at "w"
  refine w_sf hb0 T.c_Board T.n_Board_net (by simp) ?_
  rw [putF_new [] rfl rfl, List.nil_append]
  have hb1 : (upd H b (.ins (He.ga K "Board") dx [("net", .ref p)])) b = some (.ins (He.ga K "Board") dx [("net", .ref p)]) := upd_same
  have sm1 : Same Hn (upd H b (.ins (He.ga K "Board") dx [("net", .ref p)])) := Same.mut sm0 hnb
  generalize upd H b (.ins (He.ga K "Board") dx [("net", .ref p)]) = H1 at *
  refine ssx_cons (qs_fld K (pv 0) (pe_dc (own := [("name", 4)]) rfl sc_Board_init.nd (qi_list K (q_fld K (pv 1) rfl)) (blkOk_by (N := N_Board_init) (sc := defScope s_Board_init) (by decide +kernel)) (fun _ _ _ _ _ => (pg_name (i := 4) sc_Board_init.nd rfl (Or.inl rfl))) (fun _ _ _ _ _ => pts_nil) (fun _ _ _ _ _ => (pv 4)) (fun _ _ _ _ _ => (pe_dget hu (pv 2) (pv 4) (fun _ _ => rfl)))) rfl) ?_
  walk_at "w"
  have N1 := hN.same sm1
  refine w_nnames T N1 ?_
  refine w_itL (sqL N1.nm) ?_
  refine rdcV (walk_list (xs := N.names.map V.str)) N.names (fun k => .int (p0 k : Int)) (by rw [List.length_map]) (by rw [List.length_map]; omega) hok.nodup (fun H' s => s.seq (sqL N1.nm)) ?_ ?_
  · rintro i x H2 _ y hi hy s2 ⟨rfl, hx⟩ KT KF hKT
    obtain ⟨y', e1, rfl⟩ := map_get hx
    rw [hy] at e1; cases e1
    walk_at "w"
    refine ⟨rfl, ?_⟩
    walk_at "w"
    refine w_getI (s2 _ _ (sm1 _ _ hs0)) (hks y (List.mem_of_getElem? hy)) ?_
    exact hKT _ (Same.refl _)
  intro st H2 hst0 s2 h2st
  walk_at "w"
  have hst1 : Hn st = none := sm1.free hst0
  have hbst : b ≠ st := fun z => by rw [← z, hb1] at hst0; cases hst0
  refine w_sf (s2 _ _ hb1) T.c_Board T.n_Board_standing (by simp) ?_
  rw [putF_new ["net"] rfl (by decide +kernel)]
  simp only [List.cons_append, List.nil_append]
  have sm3 : Same Hn (upd H2 b (.ins (He.ga K "Board") dx [("net", .ref p), ("standing", .ref st)])) := Same.mut (sm1.trans s2) hnb
  have hb3 : (upd H2 b (.ins (He.ga K "Board") dx [("net", .ref p), ("standing", .ref st)])) b = some (.ins (He.ga K "Board") dx [("net", .ref p), ("standing", .ref st)]) := upd_same
  have hs3 : (upd H2 b (.ins (He.ga K "Board") dx [("net", .ref p), ("standing", .ref st)])) st = some (.dK (mapK N.names fun k => .int (p0 k : Int))) := by rw [upd_ne hbst.symm]; exact h2st
  generalize upd H2 b (.ins (He.ga K "Board") dx [("net", .ref p), ("standing", .ref st)]) = H3 at *
  clear s2 h2st
  refine ssx_cons (qs_fld K (pv 0) (pe_callTy k_dictD rfl T.f_dict bt_dict (pa_cons (pv 3) pa_nil)) rfl) ?_
  walk_at "w"
  refine w_dictD (sm3 _ _ hwa) fun wk H4 hwk0 s4 h4 => ?_
  walk_at "w"
  have hwk1 : Hn wk = none := sm3.free hwk0
  have hbwk : b ≠ wk := fun z => by rw [← z, hb3] at hwk0; cases hwk0
  have hstwk : st ≠ wk := fun z => by rw [← z, hs3] at hwk0; cases hwk0
  refine w_sf (s4 _ _ hb3) T.c_Board T.n_Board_waiting (by simp) ?_
  rw [putF_new ["net", "standing"] rfl (by decide +kernel)]
  simp only [List.cons_append, List.nil_append]
  have sm5 : Same Hn (upd H4 b (.ins (He.ga K "Board") dx [("net", .ref p), ("standing", .ref st), ("waiting", .ref wk)])) := Same.mut (sm3.trans s4) hnb
  have hb5 : (upd H4 b (.ins (He.ga K "Board") dx [("net", .ref p), ("standing", .ref st), ("waiting", .ref wk)])) b = some (.ins (He.ga K "Board") dx [("net", .ref p), ("standing", .ref st), ("waiting", .ref wk)]) := upd_same
  have hs5 : (upd H4 b (.ins (He.ga K "Board") dx [("net", .ref p), ("standing", .ref st), ("waiting", .ref wk)])) st = some (.dK (mapK N.names fun k => .int (p0 k : Int))) := by rw [upd_ne hbst.symm]; exact s4 _ _ hs3
  have hw5 : (upd H4 b (.ins (He.ga K "Board") dx [("net", .ref p), ("standing", .ref st), ("waiting", .ref wk)])) wk = some (DI ws fun k => (w0 k : Int)) := by rw [upd_ne hbwk.symm]; exact h4
  generalize upd H4 b (.ins (He.ga K "Board") dx [("net", .ref p), ("standing", .ref st), ("waiting", .ref wk)]) = H5 at *
  clear s4 h4 hs3
  refine ssx_cons (qs_fld K (pv 0) (pe_dc (own := [("name", 4)]) rfl sc_Board_init.nd (qi_tup K (q_fld K (pv 1) rfl)) (blkOk_by (N := N_Board_init) (sc := defScope s_Board_init) (by decide +kernel)) (fun _ _ _ _ _ => (pg_name (i := 4) sc_Board_init.nd rfl (Or.inl rfl))) (fun _ _ _ _ _ => pts_nil) (fun _ _ _ _ _ => (pv 4)) (fun _ _ _ _ _ => pe_int)) rfl) ?_
  walk_at "w"
  have N5 := hN.same sm5
  refine w_noutlets T N5 ?_
  refine w_itT N5.ou ?_
  refine rdcV (walk_tup (xs := (["o", "p"] : List Str).map V.str)) ["o", "p"] (fun _ => .int 0) (by rw [List.length_map]) (by simp) (by decide +kernel) (fun H' s => Same.sqt s N5.ou) ?_ ?_
  · rintro i x H6 _ y hi hy s6 ⟨rfl, hx⟩ KT KF hKT
    obtain ⟨y', e1, rfl⟩ := map_get hx
    rw [hy] at e1; cases e1
    walk_at "w"
    refine ⟨rfl, ?_⟩
    walk_at "w"
    exact hKT _ (Same.refl _)
  intro od H6 hod0 s6 h6
  walk_at "w"
  have hod1 : Hn od = none := sm5.free hod0
  have hbod : b ≠ od := fun z => by rw [← z, hb5] at hod0; cases hod0
  have hstod : st ≠ od := fun z => by rw [← z, hs5] at hod0; cases hod0
  have hwkod : wk ≠ od := fun z => by rw [← z, hw5] at hod0; cases hod0
  refine w_sf (s6 _ _ hb5) T.c_Board T.n_Board_out (by simp) ?_
  rw [putF_new ["net", "standing", "waiting"] rfl (by decide +kernel)]
  simp only [List.cons_append, List.nil_append]
  have sm7 : Same Hn (upd H6 b (.ins (He.ga K "Board") dx [("net", .ref p), ("standing", .ref st), ("waiting", .ref wk), ("out", .ref od)])) := Same.mut (sm5.trans s6) hnb
  have hb7 : (upd H6 b (.ins (He.ga K "Board") dx [("net", .ref p), ("standing", .ref st), ("waiting", .ref wk), ("out", .ref od)])) b = some (.ins (He.ga K "Board") dx [("net", .ref p), ("standing", .ref st), ("waiting", .ref wk), ("out", .ref od)]) := upd_same
  have hs7 : (upd H6 b (.ins (He.ga K "Board") dx [("net", .ref p), ("standing", .ref st), ("waiting", .ref wk), ("out", .ref od)])) st = some (.dK (mapK N.names fun k => .int (p0 k : Int))) := by rw [upd_ne hbst.symm]; exact s6 _ _ hs5
  have hw7 : (upd H6 b (.ins (He.ga K "Board") dx [("net", .ref p), ("standing", .ref st), ("waiting", .ref wk), ("out", .ref od)])) wk = some (DI ws fun k => (w0 k : Int)) := by rw [upd_ne hbwk.symm]; exact s6 _ _ hw5
  have ho7 : (upd H6 b (.ins (He.ga K "Board") dx [("net", .ref p), ("standing", .ref st), ("waiting", .ref wk), ("out", .ref od)])) od = some (.dK (mapK ["o", "p"] fun _ => .int 0)) := by rw [upd_ne hbod.symm]; exact h6
  generalize upd H6 b (.ins (He.ga K "Board") dx [("net", .ref p), ("standing", .ref st), ("waiting", .ref wk), ("out", .ref od)]) = H7 at *
  clear s6 h6 hs5 hw5
  refine ssx_cons (qs_fld K (pv 0) (pe_dc (own := [("name", 4)]) rfl sc_Board_init.nd (qi_list K (q_fld K (pv 1) rfl)) (blkOk_by (N := N_Board_init) (sc := defScope s_Board_init) (by decide +kernel)) (fun _ _ _ _ _ => (pg_name (i := 4) sc_Board_init.nd rfl (Or.inl rfl))) (fun _ _ _ _ _ => pts_nil) (fun _ _ _ _ _ => (pv 4)) (fun _ _ _ _ _ => pe_int)) rfl) ?_
  walk_at "w"
  have N7 := hN.same sm7
  refine w_nnames T N7 ?_
  refine w_itL (sqL N7.nm) ?_
  refine rdcV (walk_list (xs := N.names.map V.str)) N.names (fun _ => .int 0) (by rw [List.length_map]) (by rw [List.length_map]; omega) hok.nodup (fun H' s => s.seq (sqL N7.nm)) ?_ ?_
  · rintro i x H8 _ y hi hy s8 ⟨rfl, hx⟩ KT KF hKT
    obtain ⟨y', e1, rfl⟩ := map_get hx
    rw [hy] at e1; cases e1
    walk_at "w"
    refine ⟨rfl, ?_⟩
    walk_at "w"
    exact hKT _ (Same.refl _)
  intro td H8 htd0 s8 h8
  walk_at "w"
  have htd1 : Hn td = none := sm7.free htd0
  have hbtd : b ≠ td := fun z => by rw [← z, hb7] at htd0; cases htd0
  refine w_sf (s8 _ _ hb7) T.c_Board T.n_Board_taken (by simp) ?_
  rw [putF_new ["net", "standing", "waiting", "out"] rfl (by decide +kernel)]
  simp only [List.cons_append, List.nil_append]
  refine ssx_nil (k st wk od td _ ⟨?_, hnet.same (Same.alloc hnb), upd_same, by rw [upd_ne hbst.symm]; exact hst1, by rw [upd_ne hbwk.symm]; exact hwk1, by rw [upd_ne hbod.symm]; exact hod1, by rw [upd_ne hbtd.symm]; exact htd1, ?_, ?_, ?_, ?_, ?_, hpl⟩)
  · intro c o e
    by_cases z : c = b
    · subst z; rw [upd_same] at e ⊢; exact e
    · rw [upd_ne z] at e ⊢; exact s8 _ _ (sm7 _ _ e)
  · exact ⟨hstwk, hstod, (fun z => by rw [← z, hs7] at htd0; cases htd0), hwkod, (fun z => by rw [← z, hw7] at htd0; cases htd0), (fun z => by rw [← z, ho7] at htd0; cases htd0)⟩
  · rw [upd_ne hbst.symm]; exact s8 _ _ hs7
  · rw [upd_ne hbtd.symm]; exact h8
  · rw [upd_ne hbod.symm, s8 _ _ ho7]
    exact congrArg (fun f => some (HO.dK (mapK ["o", "p"] f))) (funext fun x => by show V.int 0 = V.int (N.got p0 (fun _ => 0) x : Int); rw [got_zero]; rfl)
  · refine ⟨ws, fun k => (w0 k : Int), ?_, hzr, hnd, hwn, fun k _ => wt_zero.symm⟩
    rw [upd_ne hbwk.symm]; exact s8 _ _ hw7
theorem ok_Board_first_waiting (T : TX K mg) : Fok P w K mg base CX0 1 (He.ma K (He.ga K "Board") "first_waiting") ["self"] [] (spFirstWaiting K) := by
  obtain ⟨fd, F⟩ := T.fn_Board_first_waiting
  refine ⟨⟨fd, [], ?_, F.bindsN fun _ _ _ _ _ _ us hl => match us, hl with | [_], _ => rfl, .nil⟩, F.kp⟩
  refine F.ok sc_Board_first_waiting (fun vs H Q E h => ?_) (fun cdv A outer s H vs Q E hr h => ?_)
  · obtain ⟨_, _, _, _, _, _, _, _, _, _, _, _, rfl, _⟩ := h
    rfl
  obtain ⟨b, p, st, wk, od, td, dx, N, Hn, w0, p0, u, rfl, B, hok, k1, k2⟩ := h
  obtain ⟨dk, di, to, ln, dxn, hN⟩ := B.net.same B.sm
  obtain ⟨ws, wf, hwk, hzr, hnd, hwn, hwf⟩ := B.hwk
  have hb := B.sm _ _ B.ob
  have hu := hu_of hr
  refine ssx_nox ?_
  refine ssx_cons (ps_for PassesOwn.never rfl (qi_list K (q_fld K (q_fld K (pv 0) rfl) rfl)) (pg_name (i := 1) sc_Board_first_waiting.nd rfl (Or.inl rfl)) SSX.ps) ?_
  walk_at "w"
  refine w_bnet T hb ?_
  refine w_nnames T hN ?_
  refine w_itL (sqL hN.nm) ?_
  refine for_txtL (xs := N.names) (fun i σ H2 => H2 = H ∧ (∃ o, σ = [some (.ref b), o]) ∧ ∀ y ∈ N.names.take i, N.wt w0 p0 u y ≤ 0) (fun i σ H2 h => by rw [h.1]; exact sqL hN.nm) ⟨rfl, ⟨_, rfl⟩, by simp⟩ ?_ ?_
  · rintro i y σ H2 hy ⟨rfl, ⟨o, rfl⟩, hle⟩
    have hyn := List.mem_of_getElem? hy
    walk_at "w"
    refine ssx_cons (ps_if (pt_cmpR op_gt (pe_dget2 hu (q_fld K (pv 0) rfl) (pv 1) pe_int ⟨rfl, rfl, rfl, rfl⟩) pe_int (nomark _)) SSX.ps SSX.ps) ?_
    walk_at "w"
    refine w_bwaiting T hb ?_
    refine w_isD hwk ?_
    walk_at "w"
    refine w_getOI hwk hzr ?_
    rw [hwf y hyn]
    walk_at "w"
    refine w_dcases (fun hlt => ?_) fun hlt => ?_
    · refine ssx_cons (ps_ret (pv 1)) ?_
      walk_at "w"
      obtain ⟨hi, e⟩ := List.getElem?_eq_some_iff.mp hy
      refine k1 y (N.names.take i) (N.names.drop (i + 1)) ?_ hle hlt
      rw [← e, List.getElem_cons_drop, List.take_append_drop]
    · refine ssx_nil (ssx_nil ⟨rfl, ⟨_, rfl⟩, fun z hz => ?_⟩)
      rw [take_snoc hy] at hz
      rcases List.mem_append.mp hz with q | q
      · exact hle z q
      · rw [List.mem_singleton.mp q]; omega
  · rintro σ H2 ⟨rfl, ⟨o, rfl⟩, hle⟩
    refine ssx_cons (ps_ret pe_non) ?_
    walk_at "w"
    rw [List.take_length] at hle
    exact k2 hle
end
end K1
namespace K1
open PySem PySem.Spec L2
open PyProof.Rows hiding St
local macro_rules | `(tactic| walk_at "hp") => `(tactic| first | assumption | exact upd_same | (refine' Same.to ?wse ?wsh; (case wse => assumption); (case wsh => walk_at "hp")) | ((rw [upd_ne (by first | assumption | (apply Ne.symm; assumption))]); walk_at "hp"))
local macro_rules | `(tactic| walk_at "sq") => `(tactic| first | assumption | exact sqL (by walk_at "hp") | exact sqT (by walk_at "hp") | (refine' Same.seqTo ?wse ?wsh; (case wse => assumption); (case wsh => walk_at "sq")) | (refine' Same.sqtTo ?wse ?wsh; (case wse => assumption); (case wsh => walk_at "sq")))
local macro_rules | `(tactic| walk_at "w1") => `(tactic| first
  | with_reducible refine w_asg ?_
  | with_reducible refine w_c ?_
  | with_reducible refine w_gname ?_
  | with_reducible refine w_if ?_
  | with_reducible refine w_ifs ?_
  | with_reducible refine w_test ?_
  | with_reducible refine w_tB ?_
  | with_reducible refine w_bl ?_
  | with_reducible refine w_op ?_
  | with_reducible refine w_nil ?_
  | with_reducible refine w_cons ?_
  | with_reducible refine w_cb ?_
  | with_reducible refine w_I0 ?_
  | with_reducible refine w_lst ?_
  | with_reducible refine w_tup ?_
  | with_reducible refine w_sl ?_
  | with_reducible refine w_noPart ?_
  | with_reducible refine w_part ?_
  | with_reducible refine w_int ?_
  | with_reducible refine w_par ?_
  | with_reducible refine w_two ?_
  | with_reducible refine w_par3 ?_
  | with_reducible refine w_three ?_
  | with_reducible refine w_ret ?_
  | with_reducible refine w_drop ?_
  | with_reducible refine w_chain ?_
  | with_reducible refine w_and ?_
  | with_reducible refine w_or ?_
  | with_reducible refine w_not ?_
  | with_reducible refine w_notV ?_
  | with_reducible refine w_andV ?_
  | with_reducible refine w_orV ?_
  | with_reducible refine w_int1 ?_
  | with_reducible refine w_true ?_
  | with_reducible refine w_false ?_
  | with_reducible refine w_for ?_
  | with_reducible refine w_rng1 ?_
  | with_reducible refine w_rng2 ?_
  | with_reducible refine w_iList ?_
  | with_reducible refine w_iTup ?_
  | with_reducible refine w_dget ?_
  | with_reducible refine w_din ?_
  | with_reducible refine w_dnotin ?_
  | with_reducible refine w_dput ?_
  | with_reducible refine w_dget2 ?_
  | with_reducible refine w_fld ?_
  | with_reducible refine w_dnew ?_
  | with_reducible refine w_lc ?_
  | with_reducible refine w_dc ?_
  | with_reducible refine w_iStr ?_
  | with_reducible refine w_str ?_
  | with_reducible refine w_iEnum ?_
  | with_reducible refine w_iZip ?_
  | with_reducible refine w_yes ?_
  | with_reducible refine w_gtup ?_
  | with_reducible refine w_gcons ?_
  | with_reducible refine w_rcons ?_
  | with_reducible refine w_gnil ?_
  | with_reducible refine w_leS ?_
  | with_reducible refine w_isN ?_
  | with_reducible refine w_notN ?_
  | with_reducible refine w_call ?_
  | with_reducible refine w_meth ?_
  | with_reducible refine w_bm ?_
  | with_reducible refine w_bm0 ?_
  | with_reducible refine isi_int ?_
  | with_reducible refine isi_bl_int ?_
  | with_reducible refine isi_int_bl ?_
  | with_reducible refine isi_bl ?_
  | with_reducible refine isi_str ?_
  | with_reducible refine isi_non_dict ?_
  | with_reducible refine isi_int_dict ?_
  | with_reducible refine w_ntrue ?_
  | with_reducible refine w_nfalse ?_
  | with_reducible refine w_wt ?_
  | with_reducible refine w_starD ?_
  | with_reducible refine w_starT ?_
  | with_reducible refine w_listVals ?_
  | with_reducible refine w_iEnumT ?_
  | with_reducible refine w_iEnumS ?_
  | with_reducible refine w_enumS ?_
  | with_reducible refine w_frz ?_
  | with_reducible refine w_iItems ?_
  | with_reducible refine w_iKeys ?_
  | with_reducible refine w_iVals ?_
  | with_reducible refine w_strS ?_
  | with_reducible refine w_daug ?_
  | with_reducible refine w_rAdd ?_
  | with_reducible refine w_sfld ?_
  | ((with_reducible refine' w_var ?wsd ?_); (case wsd => first | rfl | assumption))
  | ((with_reducible refine' w_eq ?wsd ?_); (case wsd => rfl))
  | ((with_reducible refine' w_ne ?wsd ?_); (case wsd => rfl))
  | ((with_reducible refine' w_lenL ?wsd ?_); (case wsd => walk_at "sq"))
  | ((with_reducible refine' w_lenT ?wsd ?_); (case wsd => walk_at "sq"))
  | ((with_reducible refine' w_itL ?wsd ?_); (case wsd => walk_at "sq"))
  | ((with_reducible refine' w_itT ?wsd ?_); (case wsd => walk_at "sq"))
  | ((with_reducible refine' w_rng1v ?wsd ?_); (case wsd => omega))
  | ((with_reducible refine' w_rng2v ?wsd ?_); (case wsd => omega))
  | ((with_reducible refine' w_I ?wsd ?_); (case wsd => walk_at "side"))
  | ((with_reducible refine' w_dtrue ?wsd ?_); (case wsd => first | assumption | omega | rfl | decide))
  | ((with_reducible refine' w_dfalse ?wsd ?_); (case wsd => first | assumption | omega | decide))
  | ((with_reducible refine' w_ndtrue ?wsd ?_); (case wsd => first | assumption | omega | rfl | decide))
  | ((with_reducible refine' w_ndfalse ?wsd ?_); (case wsd => first | assumption | omega | decide))
  | ((with_reducible refine' w_stD ?wsd ?_); (case wsd => walk_at "hp"))
  | ((with_reducible refine' w_stT ?wsd ?_); (case wsd => walk_at "sq"))
  | ((with_reducible refine' w_stL ?wsd ?_); (case wsd => walk_at "sq"))
  | ((with_reducible refine' w_isD ?wsd ?_); (case wsd => walk_at "hp"))
  | ((with_reducible refine' isi_tup ?wsd ?_); (case wsd => walk_at "sq"))
  | ((with_reducible refine' isi_dict ?wsd ?_); (case wsd => walk_at "hp"))
  | ((with_reducible refine' w_lenDv ?wsd ?_); (case wsd => walk_at "hp"))
  | ((with_reducible refine' w_enum ?wsd ?_); (case wsd => walk_at "sq"))
  | ((with_reducible refine' w_enumT ?wsd ?_); (case wsd => walk_at "sq"))
  | ((with_reducible refine' w_tyL ?wsd ?_); (case wsd => walk_at "sq")))
local macro_rules | `(tactic| walk_at "side") => `(tactic| first | omega | decide | (constructor <;> omega) | (constructor <;> decide) | (simp only [List.length_map, List.length_append, List.length_cons, List.length_nil, CDivN, CMul, CPow]; first | omega | decide | (constructor <;> omega)))
local macro_rules | `(tactic| walk_at "w") => `(tactic| repeat (walk_at "w1"))
def spTake (K : PySem.W.Frag) : Sp := fun vs H Q _ => ∃ (b p st wk od td dx : Addr) (N : NetD) (Hn : Hp) (w0 p0 u : Str → Nat) (k : Str) (m : Nat), vs = [.ref b, .str k, .int m] ∧ BoardO K Hn H b N p st wk od td dx w0 p0 u ∧ N.Ok ∧ k ∈ N.names ∧
  ∀ H', BoardO K Hn H' b N p st wk od td dx w0 p0 (up u k (u k + m)) → Q .non H'
abbrev N_Board_take : List Str := ["self", "name", "many", "place", "target", "number"]
theorem sc_Board_take : FnScope N_Board_take ["self", "name", "many"] (defScope s_Board_take) := ⟨rfl, rfl, rfl, by decide +kernel, rfl, by decide +kernel, by decide +kernel⟩
theorem DI_congr {ks : List Str} {f g : Str → Int} (h : ∀ k ∈ ks, f k = g k) : DI ks f = DI ks g := congrArg HO.dK (mapK_congr fun k hk => by rw [h k hk])
theorem op_mem {k : Str} : k ∈ (["o", "p"] : List Str) ↔ k = "o" ∨ k = "p" := by simp
section
variable {P : Program} {w : World} {K : PySem.W.Frag} {mg : Str → Option Value} {base : Heap}
theorem ok_Board_take (T : TX K mg) : Fok P w K mg base CX0 3 (He.ma K (He.ga K "Board") "take") ["self", "name", "many"] [] (spTake K) := by
  obtain ⟨fd, F⟩ := T.fn_Board_take
  refine ⟨⟨fd, [], ?_, F.bindsN fun _ _ _ _ _ _ us hl => match us, hl with | [_, _, _], _ => rfl, .nil⟩, F.kp⟩
  refine F.ok sc_Board_take (fun vs H Q E h => ?_) (fun cdv A outer s H vs Q E hr h => ?_)
  · obtain ⟨_, _, _, _, _, _, _, _, _, _, _, _, _, _, rfl, _⟩ := h
    rfl
  obtain ⟨b, p, st, wk, od, td, dx, N, Hn, w0, p0, u, kn, m, rfl, B, hok, hk, k⟩ := h
  have hu := hu_of hr
  have O_Net_dropped := @ok_Net_dropped P w K mg base T
  have O_Net_place_behind := @ok_Net_place_behind P w K mg base T
  have hb := B.sm _ _ B.ob
  have hnet := B.net.same B.sm
  obtain ⟨dk, di, to, ln, dxn, hN⟩ := id hnet
  obtain ⟨n1, n2, n3, n4, n5, n6⟩ := B.ne
  have hln := hok.len
  have hpl := N.plc_lt (hok.pos hk) (B.pl kn hk) (u kn)
  refine ssx_nox ?_
  refine ssx_cons (ps_set (i := 3) sc_Board_take.nd rfl (Or.inl rfl) (pe_dget hu (q_fld K (pv 0) rfl) (pv 1) (fun _ _ => rfl))) ?_
  walk_at "w"
  refine w_bstanding T hb ?_
  walk_at "w"
  refine w_getI B.hst hk ?_
  walk_at "w"
  refine ssx_cons (ps_for PassesOwn.never rfl (pi_items (pe_frz (pe_methF (q_fld K (pv 0) rfl) T.c_Net T.m_Net_dropped O_Net_dropped (hr.mono (by decide)) pass0 (pa_cons (pv 1) (pa_cons (pv 3) (pa_cons (pv 2) pa_nil)))))) (qg_tup K rfl (pgs_cons (pg_name (i := 4) sc_Board_take.nd rfl (Or.inl rfl)) (pgs_cons (pg_name (i := 5) sc_Board_take.nd rfl (Or.inl rfl)) pgs_nil))) SSX.ps) ?_
  walk_at "w"
  refine w_bnet T hb ?_
  refine w_nmeth hN ?_
  walk_at "w"
  refine ⟨p, N, kn, _, m, rfl, hnet, hok, hk, hpl, fun d ks f H1 s1 hd h1 hzf hndf hlf hkf hff => ?_⟩
  refine w_frzD h1 fun o1 => ?_
  refine w_itm frz_at ?_
  have hdn : Hn d = none := B.sm.free hd
  have s2 : Same H (upd H1 d (.frz o1 (DI ks f))) := Same.lock hd s1
  have h2 : upd H1 d (.frz o1 (DI ks f)) d = some (.frz o1 (DI ks f)) := upd_same
  change RFor _ _ _ _ _ (upd H1 d (.frz o1 (DI ks f)))
  generalize upd H1 d (.frz o1 (DI ks f)) = H2 at *
  obtain ⟨ws, wf, hwk, hzr, hnd, hwn, hwf⟩ := B.hwk
  refine for_walk walk_its (fun i σ H3 => (∃ o4 o5, σ = [some (.ref b), some (.str kn), some (.int m), some (.int (N.plc kn (p0 kn) (u kn) : Int)), o4, o5]) ∧ Same Hn H3 ∧ H3 d = some (.frz o1 (DI ks f)) ∧ H3 st = some (DI N.names fun k => (N.plc k (p0 k) (u k) : Int)) ∧ H3 td = some (DI N.names fun k => (u k : Int)) ∧
    H3 od = some (DI ["o", "p"] fun x => (N.got p0 u x : Int) + if x ∈ ks.take i then f x else 0) ∧ ∃ ws wf, H3 wk = some (DI ws wf) ∧ Zr ws wf ∧ ws.Nodup ∧ (∀ k ∈ ws, k ∈ N.names) ∧ ∀ x ∈ N.names, wf x = N.wt w0 p0 u x + if x ∈ ks.take i then f x else 0) ?_ ?_ ?_ ?_
  · refine ⟨⟨_, _, rfl⟩, B.sm.trans s2, h2, s2 _ _ B.hst, s2 _ _ B.htd, ?_, ws, wf, s2 _ _ hwk, hzr, hnd, hwn, fun x hx => by rw [hwf x hx]; simp⟩
    rw [s2 _ _ B.hod]; simp
  · rintro i σ H3 _ ⟨_, _, h, _⟩
    exact h
  · rintro i x σ H3 _ hi ⟨⟨o4, o5, rfl⟩, s3, h3d, h3s, h3t, h3o, ws, wf, h3w, hzr, hnd, hwn, hwf⟩ ⟨T3, y, rfl, hT3, rfl, hy⟩
    have hyf := hkf y (List.mem_of_getElem? hy)
    refine g_pair ?_
    have e3 : Same H3 (upd H3 T3 (.tup [.str y, .int (f y)])) := Same.alloc hT3
    have s4 := s3.trans e3
    replace h3d := e3 _ _ h3d
    replace h3s := e3 _ _ h3s
    replace h3t := e3 _ _ h3t
    replace h3o := e3 _ _ h3o
    replace h3w := e3 _ _ h3w
    generalize upd H3 T3 (.tup [.str y, .int (f y)]) = H4 at *
    clear e3 hT3 s3
    have hb4 := s4 _ _ B.ob
    have hwd : wk ≠ d := fun z => by rw [z, h3d] at h3w; cases h3w
    have hod : od ≠ d := fun z => by rw [z, h3d] at h3o; cases h3o
    have hny : y ∉ ks.take i := not_take hndf hy
    refine ssx_cons (ps_if (pt_cmp (pc_din hu (pv 4) (q_fld K (pv 0) rfl))) SSX.ps SSX.ps) ?_
    walk_at "w"
    refine w_bout T hb4 ?_
    refine w_inK h3o ?_
    walk_at "w"
    refine w_dcases (fun hyo => ?_) fun hyo => ?_
    · refine ssx_cons (ps_daug hu (q_fld K (pv 0) rfl) (pv 4) (pv 5) in_add (fun _ _ _ => rfl)) ?_
      walk_at "w"
      refine w_bout T hb4 ?_
      walk_at "w"
      refine w_da h3o hyo ?_
      walk_at "w"
      refine w_putA h3o (by simp) ?_
      have hyn : y ∉ N.names := by
        rcases op_mem.mp hyo with rfl | rfl
        · exact hok.no_o
        · exact hok.no_p
      refine ssx_nil (ssx_nil ⟨⟨_, _, rfl⟩, Same.mut s4 B.nod, by rw [upd_ne hod.symm]; exact h3d, by rw [upd_ne n2]; exact h3s, by rw [upd_ne n6.symm]; exact h3t, ?_, ws, wf, by rw [upd_ne n4]; exact h3w, hzr, hnd, hwn, fun x hx => ?_⟩)
      · rw [upd_same, ins_same hyo]
        refine congrArg some (DI_congr fun x _ => ?_)
        rw [take_snoc hy]
        by_cases e : x = y
        · subst e
          rw [show up _ x _ x = _ from NetD.up_same]
          simp [hny]
        · rw [show up _ y _ x = _ from NetD.up_ne e]
          simp [e]
      · rw [hwf x hx, take_snoc hy]
        have : x ≠ y := fun z => hyn (z ▸ hx)
        simp [this]
    · have hyn : y ∈ N.names := hyf.resolve_right fun z => hyo (op_mem.mpr z)
      refine ssx_cons (ps_dput hu (q_fld K (pv 0) rfl) (pv 4) (pe_op op_add (pe_dget2 hu (q_fld K (pv 0) rfl) (pv 4) pe_int ⟨rfl, rfl, rfl, rfl⟩) (pv 5)) rfl) ?_
      walk_at "w"
      refine w_bwaiting T hb4 ?_
      refine w_isD h3w ?_
      walk_at "w"
      refine w_getOI h3w hzr ?_
      walk_at "w"
      refine w_bwaiting T hb4 ?_
      walk_at "w"
      have hwl : ws.length ≤ 4 := Nat.le_trans (List.Nodup.length_le_of_subset hnd hwn) hln.2
      refine w_putI h3w (by omega) ?_
      refine ssx_nil (ssx_nil ⟨⟨_, _, rfl⟩, Same.mut s4 B.nwk, by rw [upd_ne hwd.symm]; exact h3d, by rw [upd_ne n1]; exact h3s, by rw [upd_ne n5.symm]; exact h3t, ?_, _, _, upd_same, hzr.put _ _, ins_nodup hnd, fun x hx => ?_, fun x hx => ?_⟩)
      · rw [upd_ne n4.symm, h3o]
        refine congrArg some (DI_congr fun x hx => ?_)
        rw [take_snoc hy]
        have : x ≠ y := fun z => hyo (z ▸ hx)
        simp [this]
      · rcases ins_mem.mp hx with z | z
        · exact hwn x z
        · rw [z]; exact hyn
      · rw [take_snoc hy]
        by_cases e : x = y
        · subst e
          rw [show up _ x _ x = _ from NetD.up_same, hwf x hx]
          simp [hny]
        · rw [show up _ y _ x = _ from NetD.up_ne e, hwf x hx]
          simp [e]
  · rintro σ H3 ⟨⟨o4, o5, rfl⟩, s3, h3d, h3s, h3t, h3o, ws, wf, h3w, hzr, hnd, hwn, hwf⟩
    rw [List.take_length] at *
    have hf0 : ∀ x, (if x ∈ ks then f x else 0) = f x := fun x => by
      split
      · rfl
      · exact (hzf x (by assumption)).symm
    simp only [hf0] at h3o hwf
    have hb3 := s3 _ _ B.ob
    have hwl : ws.length ≤ 4 := Nat.le_trans (List.Nodup.length_le_of_subset hnd hwn) hln.2
    refine ssx_cons (ps_dput hu (q_fld K (pv 0) rfl) (pv 1) (pe_op op_sub (pe_dget2 hu (q_fld K (pv 0) rfl) (pv 1) pe_int ⟨rfl, rfl, rfl, rfl⟩) (pv 2)) rfl) ?_
    walk_at "w"
    refine w_bwaiting T hb3 ?_
    refine w_isD h3w ?_
    walk_at "w"
    refine w_getOI h3w hzr ?_
    walk_at "w"
    refine w_bwaiting T hb3 ?_
    walk_at "w"
    refine w_putI h3w (by omega) ?_
    have s5 := Same.mut (o := DI (ins ws kn) (up wf kn (wf kn - (m : Int)))) s3 B.nwk
    have h5w : (upd H3 wk (DI (ins ws kn) (up wf kn (wf kn - (m : Int))))) wk = some (DI (ins ws kn) (up wf kn (wf kn - (m : Int)))) := upd_same
    have h5s : (upd H3 wk (DI (ins ws kn) (up wf kn (wf kn - (m : Int))))) st = some (DI N.names fun k => (N.plc k (p0 k) (u k) : Int)) := by rw [upd_ne n1]; exact h3s
    have h5t : (upd H3 wk (DI (ins ws kn) (up wf kn (wf kn - (m : Int))))) td = some (DI N.names fun k => (u k : Int)) := by rw [upd_ne n5.symm]; exact h3t
    have h5o : (upd H3 wk (DI (ins ws kn) (up wf kn (wf kn - (m : Int))))) od = some (DI ["o", "p"] fun x => (N.got p0 u x : Int) + f x) := by rw [upd_ne n4.symm]; exact h3o
    generalize upd H3 wk (DI (ins ws kn) (up wf kn (wf kn - (m : Int)))) = H5 at *
    have hb5 := s5 _ _ B.ob
    have hnet5 := B.net.same s5
    obtain ⟨dk5, di5, to5, ln5, dxn5, hN5⟩ := id hnet5
    refine ssx_cons (ps_dput hu (q_fld K (pv 0) rfl) (pv 1) (pe_methF (q_fld K (pv 0) rfl) T.c_Net T.m_Net_place_behind O_Net_place_behind (hr.mono (by decide)) pass0 (pa_cons (pv 1) (pa_cons (pv 3) (pa_cons (pv 2) pa_nil)))) rfl) ?_
    walk_at "w"
    refine w_bnet T hb5 ?_
    refine w_nmeth hN5 ?_
    walk_at "w"
    refine ⟨p, N, kn, _, m, rfl, hnet5, hok, hk, hpl, ?_⟩
    walk_at "w"
    refine w_bstanding T hb5 ?_
    walk_at "w"
    refine w_putI h5s (by omega) ?_
    rw [ins_same hk]
    have e6 : (up (fun k => (N.plc k (p0 k) (u k) : Int)) kn (N.plc kn (N.plc kn (p0 kn) (u kn)) m : Int)) = fun k => (N.plc k (p0 k) (up u kn (u kn + m) k) : Int) := funext fun x => by
      by_cases e : x = kn
      · subst e; rw [show up _ x _ x = _ from NetD.up_same, show up u x (u x + m) x = u x + m from NetD.up_same, N.plc_add]
      · rw [show up _ kn _ x = _ from NetD.up_ne e, show up u kn (u kn + m) x = u x from NetD.up_ne e]
    rw [e6]
    have s6 := Same.mut (o := DI N.names fun k => (N.plc k (p0 k) (up u kn (u kn + m) k) : Int)) s5 B.nst
    have h6s : (upd H5 st (DI N.names fun k => (N.plc k (p0 k) (up u kn (u kn + m) k) : Int))) st = some (DI N.names fun k => (N.plc k (p0 k) (up u kn (u kn + m) k) : Int)) := upd_same
    have h6w : (upd H5 st (DI N.names fun k => (N.plc k (p0 k) (up u kn (u kn + m) k) : Int))) wk = some (DI (ins ws kn) (up wf kn (wf kn - (m : Int)))) := by rw [upd_ne n1.symm]; exact h5w
    have h6t : (upd H5 st (DI N.names fun k => (N.plc k (p0 k) (up u kn (u kn + m) k) : Int))) td = some (DI N.names fun k => (u k : Int)) := by rw [upd_ne n3.symm]; exact h5t
    have h6o : (upd H5 st (DI N.names fun k => (N.plc k (p0 k) (up u kn (u kn + m) k) : Int))) od = some (DI ["o", "p"] fun x => (N.got p0 u x : Int) + f x) := by rw [upd_ne n2.symm]; exact h5o
    generalize upd H5 st (DI N.names fun k => (N.plc k (p0 k) (up u kn (u kn + m) k) : Int)) = H6 at *
    have hb6 := s6 _ _ B.ob
    refine ssx_cons (ps_daug hu (q_fld K (pv 0) rfl) (pv 1) (pv 2) in_add (fun _ _ _ => rfl)) ?_
    walk_at "w"
    refine w_btaken T hb6 ?_
    walk_at "w"
    refine w_da h6t hk ?_
    walk_at "w"
    refine w_putA h6t (by omega) ?_
    rw [ins_same hk]
    refine ssx_nil (k _ ⟨Same.mut s6 B.ntd, B.net, B.ob, B.nst, B.nwk, B.nod, B.ntd, B.ne, by rw [upd_ne n3]; exact h6s, ?_, ?_, ?_, B.pl⟩)
    · rw [upd_same]
      refine congrArg some (DI_congr fun x _ => ?_)
      by_cases e : x = kn
      · subst e; rw [show up _ x _ x = _ from NetD.up_same, show up u x (u x + m) x = u x + m from NetD.up_same]; omega
      · rw [show up _ kn _ x = _ from NetD.up_ne e, show up u kn (u kn + m) x = u x from NetD.up_ne e]
    · rw [upd_ne n6, h6o]
      refine congrArg some (DI_congr fun x _ => ?_)
      rw [N.got_step hok.nodup hk, hff]
      omega
    · refine ⟨_, _, by rw [upd_ne n5]; exact h6w, hzr.put _ _, ins_nodup hnd, fun x hx => ?_, fun x hx => ?_⟩
      · rcases ins_mem.mp hx with z | z
        · exact hwn x z
        · rw [z]; exact hk
      · rw [N.wt_step hok.nodup hk]
        by_cases e : x = kn
        · subst e; rw [show up _ x _ x = _ from NetD.up_same, hwf x hx, hff, if_pos rfl]
        · rw [show up _ kn _ x = _ from NetD.up_ne e, hwf x hx, hff, if_neg e]; omega
end
end K1
namespace K1
open PySem PySem.SeqAt
open AutoSeq1 (wpAny_loadPart')
open MeetsSeq MeetsSeq2 MeetsSeq3 SeqRoads2
section
variable {prog : Program} {w : World} {A : Around} {R : Result → Shared → Prop}
theorem tuple_neG (l b : Addr) (items items2 : Array Value) (n n2 : Nat) (dd dd2 : Option Addr) (sl sl2 : Array (Option Value)) (hsz : items.size = items2.size) (I : Nat → Shared → Prop)
    (turn : ∀ i (h1 : i < items.size) (h2 : i < items2.size) s, I i s → wpAny (model prog w) A.in1 (eqBool items[i] items2[i]) (fun r s' => r = true ∧ I (i + 1) s') (fun e s' => R (.error e) s') s)
    (fin : ∀ s, I items.size s → R (.ok (.ret (.bool false))) s) {s : Shared} (hl1 : s.heap.get? l = some { cls := .type "tuple", dict := dd, data := .seq items n, slots := sl }) (hb1 : s.heap.get? b = some { cls := .type "tuple", dict := dd2, data := .seq items2 n2, slots := sl2 }) (h : I 0 s) :
    wpAny (model prog w) A.in1 (Builtin.«tuple.__ne__» ⟨[.ref l, .ref b], []⟩) (GQ.FinOf prog w A R) (fun e s' => R (.error e) s') s := by
  have f2 := AutoSeq1.sub_tuple_tuple
  have hZ : (items.toList.zip items2.toList).length = items.size := by simp [hsz]
  have h0 := h
  obtain ⟨hp, g, d, tk, os⟩ := s
  wp_walk using wpAny_loadPart' hl1, wpAny_loadPart' hb1, wpAny_forIn_list _ (fun rest b s' => b.1 = none ∧ ∃ i, rest = (items.toList.zip items2.toList).drop i ∧ i ≤ items.size ∧ I i s') _
  case turn =>
    rintro ⟨y, x⟩ rest b s' ⟨hb', i, hz, hi, hI⟩
    have hlt : i < (items.toList.zip items2.toList).length := by
      rcases Nat.lt_or_ge i (items.toList.zip items2.toList).length with h' | h'
      · exact h'
      · rw [List.drop_of_length_le h'] at hz; cases hz
    have h1 : i < items.size := hZ ▸ hlt
    have h2 : i < items2.size := hsz ▸ h1
    rw [List.drop_eq_getElem_cons hlt] at hz
    injection hz with hyx hrest
    have hy : y = items[i] := by have := congrArg Prod.fst hyx; simpa using this
    have hx : x = items2[i] := by have := congrArg Prod.snd hyx; simpa using this
    subst hy hx
    refine wpAny_bind (wpAny_mono (turn i h1 h2 s' hI) (fun r s2 q2 => ?_) fun _ _ x => x)
    obtain ⟨hr, q2⟩ := q2
    subst hr
    wp_walk
    exact ⟨rfl, i + 1, hrest, h1, q2⟩
  case fin =>
    rintro ⟨b1, b2⟩ s' ⟨hb', i, hz, hi, hI⟩
    simp only at hb'
    subst hb'
    have hge : items.size ≤ i := by
      rcases Nat.lt_or_ge i (items.toList.zip items2.toList).length with h' | h'
      · rw [List.drop_eq_getElem_cons h'] at hz; cases hz
      · exact hZ ▸ h'
    have hi' : i = items.size := by omega
    have hR : R (.ok (.ret (.bool false))) s' := fin s' (hi' ▸ hI)
    wp_walk
    simpa [Builtin.Tuple.tupleCompareSizes, hsz] using hR
  case h =>
    exact ⟨rfl, 0, rfl, Nat.zero_le _, h0⟩
end
section
variable {prog : Program} {w : World} {A : Around} {E : Value → Shared → Prop} {s : Shared}
theorem nc_tupG {l b : Addr} {items items2 : Array Value} {Q : Value → Shared → Prop} (hsz : items.size = items2.size) (hu : A.units < cLine) (I : Nat → Shared → Prop)
    (hl : s.heap.IsTuple l items) (hb : s.heap.IsTuple b items2)
    (turn : ∀ i (h1 : i < items.size) (h2 : i < items2.size) s, I i s → wpAny (model prog w) A.in1 (eqBool items[i] items2[i]) (fun r s' => r = true ∧ I (i + 1) s') E s)
    (fin : ∀ s, I items.size s → Q (.bool false) s) (h : I 0 s) : wpAny (model prog w) A (richCompare .NotEq (.ref l) (.ref b)) Q E s := by
  obtain ⟨⟨cls, dd, data, sl⟩, ho, hc, n, hd⟩ := id hl
  obtain ⟨⟨cls2, dd2, data2, sl2⟩, ho2, hc2, n2, hd2⟩ := id hb
  simp only at hc hd hc2 hd2
  subst hc hd hc2 hd2
  refine wpAny_richCompare_same_room (op := .NotEq) ⟨_, ho, rfl⟩ ⟨_, ho2, rfl⟩ F.slot_tuple_ne (GQ.call_here F.slot_tuple_ne ⟨_, ho, rfl⟩ F.entry_tuple_ne (F.args_tuple_ne_2 _ _) ?_) hu
  exact tuple_neG (R := wants (fun v s' => v ≠ .notImplemented ∧ Q v s') E) l b items items2 n n2 dd dd2 sl sl2 hsz I turn (fun s' q => ⟨(fun x => nomatch x), fin s' q⟩) ho ho2 h
end
end K1
namespace K1
open PySem PySem.Spec L2
open PyProof.Rows hiding St
def DDic : Eqv := fun x y H => ∃ a b ks ls f g, x = .ref a ∧ y = .ref b ∧ H a = some (DI ks f) ∧ H b = some (DI ls g) ∧ ks.length = ls.length ∧ ∀ k ∈ ks, k ∈ ls ∧ f k = g k
theorem mon_dic : Mon DDic := fun x y H H' e d => by
  obtain ⟨a, b, ks, ls, f, g, hx, hy, h1, h2, r⟩ := d
  exact ⟨a, b, ks, ls, f, g, hx, hy, e _ _ h1, e _ _ h2, r⟩
theorem dic_hits {ks ls : List Str} {f g : Str → Int} (h : ∀ k ∈ ks, k ∈ ls ∧ f k = g k) : ∀ p ∈ mapK ks fun k => .int (f k), ∃ u, valV (mapK ls fun k => .int (g k)) p.1 = some u ∧ p.2 = u ∧ flatB p.2 = true := by
  intro p hp
  obtain ⟨k, hk, rfl⟩ := List.mem_map.mp hp
  obtain ⟨h1, h2⟩ := h k hk
  exact ⟨.int (g k), by rw [valV_mapK, if_pos h1], (by show V.int (f k) = V.int (g k); rw [h2]), rfl⟩
theorem hits_same {A : Around} {s : Shared} {ls : List (Key × V)} {vb : List (Key × Value)} (rb : KV ls vb) {ks : List (Key × V)} {va : List (Key × Value)}
    (ra : KV ks va) : (∀ p ∈ ks, ∃ u, valV ls p.1 = some u ∧ p.2 = u ∧ flatB p.2 = true) → PySem.W.KeqHits A s vb va true := by
  unfold KV at ra
  induction ra with
  | nil => intro _; exact .nil
  | @cons p q ps qs h t k =>
    intro hp
    obtain ⟨h1, h2⟩ := h
    obtain ⟨u, e, f1, f2⟩ := hp p List.mem_cons_self
    have rr : RelO (some u) (valueAt vb p.1) := by rw [← e]; exact rb.val p.1
    obtain ⟨y, hy, ry⟩ := rr.some_of
    obtain ⟨key, v⟩ := q
    have h1' : p.1 = key := h1
    rw [h1'] at hy
    subst f1
    show PySem.W.KeqHits A s vb ((key, v) :: qs) (true && true)
    exact .hit hy (eqAt_same h2 ry f2) (k fun p' hm => hp p' (List.mem_cons_of_mem _ hm))
section
variable {X : Cx} {n : Nat} {D : Eqv}
theorem rcG_dic : RcG X 0 DDic := by
  intro A pins s σ H x y u v sb I rx ry d
  obtain ⟨a, b, ks, ls, f, g, rfl, rfl, ha, hb, hl, h⟩ := d
  cases rx
  cases ry
  obtain ⟨_, ya, va, ra, da⟩ := (show ObjOk X.prog X.w H s.heap a (DI ks f) from I.hok a _ ha)
  obtain ⟨_, yb, vb, rb, db⟩ := (show ObjOk X.prog X.w H s.heap b (DI ls g) from I.hok b _ hb)
  refine PySem.W.rcP_dicts (knd := mixKind X.prog X.w) (r := true) ya yb da db sb.room.units0 (fun _ => hits_run (F := fun x y => x = y ∧ flatB x = true) (fun x y v u h rx ry => by obtain ⟨rfl, f⟩ := h; exact (eqAt_same rx ry f).eqP) rb ra (fun p hp => by
    obtain ⟨u, h1, h2, h3⟩ := dic_hits h p hp; exact ⟨u, h1, h2, h3⟩)) _ _ ?_
  have e : va.length = vb.length := by rw [← ra.length, ← rb.length, mapK_len, mapK_len]; exact hl
  rw [show (va.length == vb.length && true) = true from by rw [e]; simp]
  exact ⟨rfl, H, I, Ext.rfl'⟩
theorem eqG_dic : EqG X 0 DDic := rcG_dic.eqG fun _ _ _ d => let ⟨a, b, _, _, _, _, hx, hy, _⟩ := d; ⟨a, b, hx, hy⟩
def rNeG (D : Eqv) : R2 := fun x y H Q => D x y H ∧ ∀ H', Ext H H' → Q (.bl false) H'
theorem op_neDic (hu : X.A.units < cLine) : OpR X (compareOp .NotEq) (rNeG DDic) := by
  intro pins s σ H x y v u Q I rx ry hq
  obtain ⟨⟨a, b, ks, ls, f, g, rfl, rfl, ha, hb, hl, h⟩, q⟩ := hq
  cases rx
  cases ry
  obtain ⟨_, ya, va, ra, da⟩ := (show ObjOk X.prog X.w H s.heap a (DI ks f) from I.hok a _ ha)
  obtain ⟨_, yb, vb, rb, db⟩ := (show ObjOk X.prog X.w H s.heap b (DI ls g) from I.hok b _ hb)
  refine PySem.W.keq_ne (knd := mixKind X.prog X.w) (r := true) ya yb da db hu (fun _ => hits_same rb ra (dic_hits h)) ?_
  have e : va.length = vb.length := by rw [← ra.length, ← rb.length, mapK_len, mapK_len]; exact hl
  rw [show (!(va.length == vb.length && true)) = false from by rw [e]; simp]
  exact ⟨.bl false, H, I, rfl, q H Ext.rfl'⟩
theorem op_neTup (hD : Mon D) (h : EqG X n D) (hr : Room (n + 1) X.A) : OpR X (compareOp .NotEq) (rNeG (DTup X.K D)) := by
  intro pins s σ H x y v u Q I rx ry hq
  obtain ⟨⟨a, b, xs, ys, rfl, rfl, ha, hb, p⟩, q⟩ := hq
  cases rx
  cases ry
  obtain ⟨its, r, e, z⟩ := I.tuple ha
  obtain ⟨its2, r2, e2, z2⟩ := I.tuple hb
  have hsz : its.toArray.size = its2.toArray.size := by rw [List.size_toArray, List.size_toArray, ← r.length, ← r2.length]; exact p.1
  show wpAny (model X.prog X.w) X.A (richCompare .NotEq _ _) (EP X pins σ Q) X.xe s
  refine nc_tupG hsz hr.units0 (fun _ s' => LoopI X pins σ H s') e e2 (fun i h1 h2 s' q => turnG hD h (A := X.A) ⟨hr, rfl⟩ p r r2 i h1 h2 s' q) (fun s' q' => ?_) ⟨H, I, Ext.rfl'⟩
  obtain ⟨H', I', e'⟩ := q'
  exact ⟨.bl false, H', I', rfl, q H' e'⟩
end
end K1
namespace K1
open PySem PySem.Spec L2
open PyProof.Rows hiding St
local macro_rules | `(tactic| walk_at "hp") => `(tactic| first | assumption | exact upd_same | (refine' Same.to ?wse ?wsh; (case wse => assumption); (case wsh => walk_at "hp")) | ((rw [upd_ne (by first | assumption | (apply Ne.symm; assumption))]); walk_at "hp"))
local macro_rules | `(tactic| walk_at "sq") => `(tactic| first | assumption | exact sqL (by walk_at "hp") | exact sqT (by walk_at "hp") | (refine' Same.seqTo ?wse ?wsh; (case wse => assumption); (case wsh => walk_at "sq")) | (refine' Same.sqtTo ?wse ?wsh; (case wse => assumption); (case wsh => walk_at "sq")))
local macro_rules | `(tactic| walk_at "w1") => `(tactic| first
  | with_reducible refine w_asg ?_
  | with_reducible refine w_c ?_
  | with_reducible refine w_gname ?_
  | with_reducible refine w_if ?_
  | with_reducible refine w_ifs ?_
  | with_reducible refine w_test ?_
  | with_reducible refine w_tB ?_
  | with_reducible refine w_bl ?_
  | with_reducible refine w_op ?_
  | with_reducible refine w_nil ?_
  | with_reducible refine w_cons ?_
  | with_reducible refine w_cb ?_
  | with_reducible refine w_I0 ?_
  | with_reducible refine w_lst ?_
  | with_reducible refine w_tup ?_
  | with_reducible refine w_sl ?_
  | with_reducible refine w_noPart ?_
  | with_reducible refine w_part ?_
  | with_reducible refine w_int ?_
  | with_reducible refine w_par ?_
  | with_reducible refine w_two ?_
  | with_reducible refine w_par3 ?_
  | with_reducible refine w_three ?_
  | with_reducible refine w_ret ?_
  | with_reducible refine w_drop ?_
  | with_reducible refine w_chain ?_
  | with_reducible refine w_and ?_
  | with_reducible refine w_or ?_
  | with_reducible refine w_not ?_
  | with_reducible refine w_notV ?_
  | with_reducible refine w_andV ?_
  | with_reducible refine w_orV ?_
  | with_reducible refine w_int1 ?_
  | with_reducible refine w_true ?_
  | with_reducible refine w_false ?_
  | with_reducible refine w_for ?_
  | with_reducible refine w_rng1 ?_
  | with_reducible refine w_rng2 ?_
  | with_reducible refine w_iList ?_
  | with_reducible refine w_iTup ?_
  | with_reducible refine w_dget ?_
  | with_reducible refine w_din ?_
  | with_reducible refine w_dnotin ?_
  | with_reducible refine w_dput ?_
  | with_reducible refine w_dget2 ?_
  | with_reducible refine w_fld ?_
  | with_reducible refine w_dnew ?_
  | with_reducible refine w_lc ?_
  | with_reducible refine w_dc ?_
  | with_reducible refine w_iStr ?_
  | with_reducible refine w_str ?_
  | with_reducible refine w_iEnum ?_
  | with_reducible refine w_iZip ?_
  | with_reducible refine w_yes ?_
  | with_reducible refine w_gtup ?_
  | with_reducible refine w_gcons ?_
  | with_reducible refine w_rcons ?_
  | with_reducible refine w_gnil ?_
  | with_reducible refine w_leS ?_
  | with_reducible refine w_isN ?_
  | with_reducible refine w_notN ?_
  | with_reducible refine w_call ?_
  | with_reducible refine w_meth ?_
  | with_reducible refine w_bm ?_
  | with_reducible refine w_bm0 ?_
  | with_reducible refine isi_int ?_
  | with_reducible refine isi_bl_int ?_
  | with_reducible refine isi_int_bl ?_
  | with_reducible refine isi_bl ?_
  | with_reducible refine isi_str ?_
  | with_reducible refine isi_non_dict ?_
  | with_reducible refine isi_int_dict ?_
  | with_reducible refine w_ntrue ?_
  | with_reducible refine w_nfalse ?_
  | with_reducible refine w_wt ?_
  | with_reducible refine w_starD ?_
  | with_reducible refine w_starT ?_
  | with_reducible refine w_listVals ?_
  | with_reducible refine w_iEnumT ?_
  | with_reducible refine w_iEnumS ?_
  | with_reducible refine w_enumS ?_
  | with_reducible refine w_frz ?_
  | with_reducible refine w_iItems ?_
  | with_reducible refine w_iKeys ?_
  | with_reducible refine w_iVals ?_
  | with_reducible refine w_strS ?_
  | with_reducible refine w_daug ?_
  | with_reducible refine w_rAdd ?_
  | with_reducible refine w_sfld ?_
  | ((with_reducible refine' w_var ?wsd ?_); (case wsd => first | rfl | assumption))
  | ((with_reducible refine' w_eq ?wsd ?_); (case wsd => rfl))
  | ((with_reducible refine' w_ne ?wsd ?_); (case wsd => rfl))
  | ((with_reducible refine' w_lenL ?wsd ?_); (case wsd => walk_at "sq"))
  | ((with_reducible refine' w_lenT ?wsd ?_); (case wsd => walk_at "sq"))
  | ((with_reducible refine' w_itL ?wsd ?_); (case wsd => walk_at "sq"))
  | ((with_reducible refine' w_itT ?wsd ?_); (case wsd => walk_at "sq"))
  | ((with_reducible refine' w_rng1v ?wsd ?_); (case wsd => omega))
  | ((with_reducible refine' w_rng2v ?wsd ?_); (case wsd => omega))
  | ((with_reducible refine' w_I ?wsd ?_); (case wsd => walk_at "side"))
  | ((with_reducible refine' w_dtrue ?wsd ?_); (case wsd => first | assumption | omega | rfl | decide))
  | ((with_reducible refine' w_dfalse ?wsd ?_); (case wsd => first | assumption | omega | decide))
  | ((with_reducible refine' w_ndtrue ?wsd ?_); (case wsd => first | assumption | omega | rfl | decide))
  | ((with_reducible refine' w_ndfalse ?wsd ?_); (case wsd => first | assumption | omega | decide))
  | ((with_reducible refine' w_stD ?wsd ?_); (case wsd => walk_at "hp"))
  | ((with_reducible refine' w_stT ?wsd ?_); (case wsd => walk_at "sq"))
  | ((with_reducible refine' w_stL ?wsd ?_); (case wsd => walk_at "sq"))
  | ((with_reducible refine' w_isD ?wsd ?_); (case wsd => walk_at "hp"))
  | ((with_reducible refine' isi_tup ?wsd ?_); (case wsd => walk_at "sq"))
  | ((with_reducible refine' isi_dict ?wsd ?_); (case wsd => walk_at "hp"))
  | ((with_reducible refine' w_lenDv ?wsd ?_); (case wsd => walk_at "hp"))
  | ((with_reducible refine' w_enum ?wsd ?_); (case wsd => walk_at "sq"))
  | ((with_reducible refine' w_enumT ?wsd ?_); (case wsd => walk_at "sq"))
  | ((with_reducible refine' w_tyL ?wsd ?_); (case wsd => walk_at "sq")))
local macro_rules | `(tactic| walk_at "side") => `(tactic| first | omega | decide | (constructor <;> omega) | (constructor <;> decide) | (simp only [List.length_map, List.length_append, List.length_cons, List.length_nil, CDivN, CMul, CPow]; first | omega | decide | (constructor <;> omega)))
local macro_rules | `(tactic| walk_at "w") => `(tactic| repeat (walk_at "w1"))
abbrev setF (td od st ol : Addr) : List (Str × V) := [("taken", .ref td), ("out", .ref od), ("standing", .ref st), ("order", .ref ol)]
def PairAt (K : PySem.W.Frag) (H : Hp) (p : Addr) (e : Str × Nat) : Prop := SqT K H p [.str e.1, .int e.2]
def OrdAt (K : PySem.W.Frag) (H : Hp) (a : Addr) (ord : List (Str × Nat)) : Prop := ∃ ps : List Addr, H a = some (.lst (ps.map V.ref)) ∧ Paired (PairAt K H) ps ord
structure SetOb (K : PySem.W.Frag) (H : Hp) (s : Addr) (N : NetD) (p0 u : Str → Nat) (ord : List (Str × Nat)) (td od st ol dx : Addr) : Prop where
  ob : H s = some (.ins (He.ga K "Settled") dx (setF td od st ol))
  htd : H td = some (DI N.names fun k => (u k : Int))
  hod : H od = some (DI ["o", "p"] fun k => (N.got p0 u k : Int))
  hst : H st = some (DI N.names fun k => (N.plc k (p0 k) (u k) : Int))
  hol : OrdAt K H ol ord
def SetO (K : PySem.W.Frag) (H : Hp) (s : Addr) (N : NetD) (p0 u : Str → Nat) (ord : List (Str × Nat)) : Prop := ∃ td od st ol dx, SetOb K H s N p0 u ord td od st ol dx
section
variable {K : PySem.W.Frag} {mg : Str → Option Value} {H H' : Hp} {s td od st ol dx : Addr} {N : NetD} {p0 u : Str → Nat} {Q : VK} {ord : List (Str × Nat)}
theorem OrdAt.same {a : Addr} (e : Same H H') (h : OrdAt K H a ord) : OrdAt K H' a ord := by
  obtain ⟨ps, h1, h2⟩ := h
  exact ⟨ps, e _ _ h1, paired_imp h2 fun _ _ z => Same.sqt e z⟩
theorem SetOb.same (e : Same H H') (h : SetOb K H s N p0 u ord td od st ol dx) : SetOb K H' s N p0 u ord td od st ol dx := ⟨e _ _ h.ob, e _ _ h.htd, e _ _ h.hod, e _ _ h.hst, h.hol.same e⟩
theorem SetO.same (e : Same H H') (h : SetO K H s N p0 u ord) : SetO K H' s N p0 u ord := by
  obtain ⟨a, b, c, d, f, h⟩ := h
  exact ⟨a, b, c, d, f, h.same e⟩
theorem lks_taken : (setF td od st ol).lookup ("taken" : Str) = some (.ref td) := by
  have h1 : (("taken" : Str) == "taken") = true := by decide +kernel
  simp [List.lookup, h1]
theorem lks_out : (setF td od st ol).lookup ("out" : Str) = some (.ref od) := by
  have h1 : (("out" : Str) == "taken") = false := by decide +kernel
  have h2 : (("out" : Str) == "out") = true := by decide +kernel
  simp [List.lookup, h1, h2]
theorem lks_standing : (setF td od st ol).lookup ("standing" : Str) = some (.ref st) := by
  have h1 : (("standing" : Str) == "taken") = false := by decide +kernel
  have h2 : (("standing" : Str) == "out") = false := by decide +kernel
  have h3 : (("standing" : Str) == "standing") = true := by decide +kernel
  simp [List.lookup, h1, h2, h3]
theorem lks_order : (setF td od st ol).lookup ("order" : Str) = some (.ref ol) := by
  have h1 : (("order" : Str) == "taken") = false := by decide +kernel
  have h2 : (("order" : Str) == "out") = false := by decide +kernel
  have h3 : (("order" : Str) == "standing") = false := by decide +kernel
  have h4 : (("order" : Str) == "order") = true := by decide +kernel
  simp [List.lookup, h1, h2, h3, h4]
theorem lks_shows : (setF td od st ol).lookup ("shows" : Str) = none := by
  have h1 : (("shows" : Str) == "taken") = false := by decide +kernel
  have h2 : (("shows" : Str) == "out") = false := by decide +kernel
  have h3 : (("shows" : Str) == "standing") = false := by decide +kernel
  have h4 : (("shows" : Str) == "order") = false := by decide +kernel
  simp [List.lookup, h1, h2, h3, h4]
theorem w_staken (T : TX K mg) (h : SetOb K H s N p0 u ord td od st ol dx) (q : Q (.ref td) H) : RFld K "taken" (.ref s) H Q := w_rfld h.ob T.c_Settled T.n_Settled_taken lks_taken q
theorem w_sout (T : TX K mg) (h : SetOb K H s N p0 u ord td od st ol dx) (q : Q (.ref od) H) : RFld K "out" (.ref s) H Q := w_rfld h.ob T.c_Settled T.n_Settled_out lks_out q
theorem w_sstanding (T : TX K mg) (h : SetOb K H s N p0 u ord td od st ol dx) (q : Q (.ref st) H) : RFld K "standing" (.ref s) H Q := w_rfld h.ob T.c_Settled T.n_Settled_standing lks_standing q
theorem w_sorder (T : TX K mg) (h : SetOb K H s N p0 u ord td od st ol dx) (q : Q (.ref ol) H) : RFld K "order" (.ref s) H Q := w_rfld h.ob T.c_Settled T.n_Settled_order lks_order q
end
def spSettledInit (K : PySem.W.Frag) : Sp := fun vs H Q _ => ∃ (s t o sd l dx : Addr) (N : NetD) (Hn : Hp) (p0 u : Str → Nat) (ps : List Addr) (ord : List (Str × Nat)), vs = [.ref s, .ref t, .ref o, .ref sd, .ref l] ∧ H s = some (.ins (He.ga K "Settled") dx []) ∧ Hn s = none ∧ Same Hn H ∧
  Hn t = some (DI N.names fun k => (u k : Int)) ∧ Hn o = some (DI ["o", "p"] fun k => (N.got p0 u k : Int)) ∧ Hn sd = some (DI N.names fun k => (N.plc k (p0 k) (u k) : Int)) ∧ (SqL K Hn l (ps.map V.ref) ∨ SqT K Hn l (ps.map V.ref)) ∧ Paired (PairAt K Hn) ps ord ∧
  ∀ H', Same Hn H' → SetO K H' s N p0 u ord → Q .non H'
def SetEq (K : PySem.W.Frag) (a b : Addr) (H : Hp) : Prop := ∃ N p0 u ord, SetO K H a N p0 u ord ∧ SetO K H b N p0 u ord
abbrev N_Settled_init : List Str := ["self", "taken", "out", "standing", "order"]
theorem sc_Settled_init : FnScope N_Settled_init ["self", "taken", "out", "standing", "order"] (defScope s_Settled_init) := ⟨rfl, rfl, rfl, by decide +kernel, rfl, by decide +kernel, by decide +kernel⟩
abbrev N_Settled_eq : List Str := ["self", "other", "mine"]
theorem sc_Settled_eq : FnScope N_Settled_eq ["self", "other"] (defScope s_Settled_eq) := ⟨rfl, rfl, rfl, by decide +kernel, rfl, by decide +kernel, by decide +kernel⟩
section
variable {P : Program} {w : World} {K : PySem.W.Frag} {mg : Str → Option Value} {base : Heap}
theorem ok_Settled_init (T : TX K mg) : Fok P w K mg base CX0 1 (He.ma K (He.ga K "Settled") "__init__") ["self", "taken", "out", "standing", "order"] [] (spSettledInit K) := by
  obtain ⟨fd, F⟩ := T.fn_Settled_init
  refine ⟨⟨fd, [], ?_, F.bindsN fun _ _ _ _ _ _ us hl => match us, hl with | [_, _, _, _, _], _ => rfl, .nil⟩, F.kp⟩
  refine F.ok sc_Settled_init (fun vs H Q E h => ?_) (fun cdv A outer s H vs Q E hr h => ?_)
  · obtain ⟨_, _, _, _, _, _, _, _, _, _, _, _, rfl, _⟩ := h
    rfl
  obtain ⟨b, t, o, sd, l, dx, N, Hn, p0, u, ps, ord, rfl, hb0, hnb, sm0, ht, ho, hs, hl, hP, k⟩ := h
  have hu := hu_of hr
  refine ssx_nox ?_
  refine ssx_cons (qs_fld K (pv 0) (pe_callTy k_dictD rfl T.f_dict bt_dict (pa_cons (pv 1) pa_nil)) rfl) ?_
  walk_at "w"
  refine w_dictD (sm0 _ _ ht) fun td H1 htd0 s1 h1 => ?_
  walk_at "w"
  have nb1 : b ≠ td := fun z => by rw [← z, hb0] at htd0; cases htd0
  refine w_sf (s1 _ _ hb0) T.c_Settled T.n_Settled_taken (by simp) ?_
  rw [putF_new [] rfl rfl, List.nil_append]
  have sm2 : Same Hn (upd H1 b (.ins (He.ga K "Settled") dx [("taken", .ref td)])) := Same.mut (sm0.trans s1) hnb
  have hb2 : (upd H1 b (.ins (He.ga K "Settled") dx [("taken", .ref td)])) b = some (.ins (He.ga K "Settled") dx [("taken", .ref td)]) := upd_same
  have ht2 : (upd H1 b (.ins (He.ga K "Settled") dx [("taken", .ref td)])) td = some (DI N.names fun k => (u k : Int)) := by rw [upd_ne nb1.symm]; exact h1
  generalize upd H1 b (.ins (He.ga K "Settled") dx [("taken", .ref td)]) = H2 at *
  clear s1 h1
  refine ssx_cons (qs_fld K (pv 0) (pe_callTy k_dictD rfl T.f_dict bt_dict (pa_cons (pv 2) pa_nil)) rfl) ?_
  walk_at "w"
  refine w_dictD (sm2 _ _ ho) fun od H3 hod0 s3 h3 => ?_
  walk_at "w"
  have nb2 : b ≠ od := fun z => by rw [← z, hb2] at hod0; cases hod0
  refine w_sf (s3 _ _ hb2) T.c_Settled T.n_Settled_out (by simp) ?_
  rw [putF_new ["taken"] rfl (by decide +kernel)]
  simp only [List.cons_append, List.nil_append]
  have sm4 : Same Hn (upd H3 b (.ins (He.ga K "Settled") dx [("taken", .ref td), ("out", .ref od)])) := Same.mut (sm2.trans s3) hnb
  have hb4 : (upd H3 b (.ins (He.ga K "Settled") dx [("taken", .ref td), ("out", .ref od)])) b = some (.ins (He.ga K "Settled") dx [("taken", .ref td), ("out", .ref od)]) := upd_same
  have ht4 : (upd H3 b (.ins (He.ga K "Settled") dx [("taken", .ref td), ("out", .ref od)])) td = some (DI N.names fun k => (u k : Int)) := by rw [upd_ne nb1.symm]; exact s3 _ _ ht2
  have ho4 : (upd H3 b (.ins (He.ga K "Settled") dx [("taken", .ref td), ("out", .ref od)])) od = some (DI ["o", "p"] fun k => (N.got p0 u k : Int)) := by rw [upd_ne nb2.symm]; exact h3
  generalize upd H3 b (.ins (He.ga K "Settled") dx [("taken", .ref td), ("out", .ref od)]) = H4 at *
  clear s3 h3 ht2
  refine ssx_cons (qs_fld K (pv 0) (pe_callTy k_dictD rfl T.f_dict bt_dict (pa_cons (pv 3) pa_nil)) rfl) ?_
  walk_at "w"
  refine w_dictD (sm4 _ _ hs) fun st H5 hst0 s5 h5 => ?_
  walk_at "w"
  have nb3 : b ≠ st := fun z => by rw [← z, hb4] at hst0; cases hst0
  refine w_sf (s5 _ _ hb4) T.c_Settled T.n_Settled_standing (by simp) ?_
  rw [putF_new ["taken", "out"] rfl (by decide +kernel)]
  simp only [List.cons_append, List.nil_append]
  have sm6 : Same Hn (upd H5 b (.ins (He.ga K "Settled") dx [("taken", .ref td), ("out", .ref od), ("standing", .ref st)])) := Same.mut (sm4.trans s5) hnb
  have hb6 : (upd H5 b (.ins (He.ga K "Settled") dx [("taken", .ref td), ("out", .ref od), ("standing", .ref st)])) b = some (.ins (He.ga K "Settled") dx [("taken", .ref td), ("out", .ref od), ("standing", .ref st)]) := upd_same
  have ht6 : (upd H5 b (.ins (He.ga K "Settled") dx [("taken", .ref td), ("out", .ref od), ("standing", .ref st)])) td = some (DI N.names fun k => (u k : Int)) := by rw [upd_ne nb1.symm]; exact s5 _ _ ht4
  have ho6 : (upd H5 b (.ins (He.ga K "Settled") dx [("taken", .ref td), ("out", .ref od), ("standing", .ref st)])) od = some (DI ["o", "p"] fun k => (N.got p0 u k : Int)) := by rw [upd_ne nb2.symm]; exact s5 _ _ ho4
  have hs6 : (upd H5 b (.ins (He.ga K "Settled") dx [("taken", .ref td), ("out", .ref od), ("standing", .ref st)])) st = some (DI N.names fun k => (N.plc k (p0 k) (u k) : Int)) := by rw [upd_ne nb3.symm]; exact h5
  generalize upd H5 b (.ins (He.ga K "Settled") dx [("taken", .ref td), ("out", .ref od), ("standing", .ref st)]) = H6 at *
  clear s5 h5 ht4 ho4
  refine ssx_cons (qs_fld K (pv 0) (pe_callTy (q_list K) rfl T.f_list bt_list (pa_cons (pv 4) pa_nil)) rfl) ?_
  walk_at "w"
  have fin : ∀ (q : Addr) H7, H6 q = none → Same H6 H7 → H7 q = some (.lst (ps.map V.ref)) → RSFld K "order" (.ref b) (.ref q) H7 fun H8 => Q .non H8 := by
    intro q H7 hq0 s7 h7
    have nb4 : b ≠ q := fun z => by rw [← z, hb6] at hq0; cases hq0
    refine w_sf (s7 _ _ hb6) T.c_Settled T.n_Settled_order (by simp) ?_
    rw [putF_new ["taken", "out", "standing"] rfl (by decide +kernel)]
    simp only [List.cons_append, List.nil_append]
    have sm8 : Same Hn (upd H7 b (.ins (He.ga K "Settled") dx [("taken", .ref td), ("out", .ref od), ("standing", .ref st), ("order", .ref q)])) := Same.mut (sm6.trans s7) hnb
    refine k _ sm8 ⟨td, od, st, q, dx, upd_same, by rw [upd_ne nb1.symm]; exact s7 _ _ ht6, by rw [upd_ne nb2.symm]; exact s7 _ _ ho6, by rw [upd_ne nb3.symm]; exact s7 _ _ hs6, ps, by rw [upd_ne nb4.symm]; exact h7, paired_imp hP fun _ _ z => Same.sqt sm8 z⟩
  rcases hl with hl | hl
  · refine w_listL (sm6.seq hl) fun q H7 hq0 s7 h7 => ?_
    walk_at "w"
    obtain ⟨a, C, dx', fs, e1, e2, e3, e4, e5, e6⟩ := fin q H7 hq0 s7 h7
    exact ⟨a, C, dx', fs, e1, e2, e3, e4, e5, ssx_nil e6⟩
  · refine w_listT (Same.sqt sm6 hl) fun q H7 hq0 s7 h7 => ?_
    walk_at "w"
    obtain ⟨a, C, dx', fs, e1, e2, e3, e4, e5, e6⟩ := fin q H7 hq0 s7 h7
    exact ⟨a, C, dx', fs, e1, e2, e3, e4, e5, ssx_nil e6⟩
theorem eqG_set {X : Cx} (hK : X.K = K) : EqG X 2 (fun x y H => DDic x y H ∨ DList (DTup K DFlat) x y H) := by
  subst hK
  exact (eqG_dic.mono (Nat.zero_le _)).or (eqG_list (mon_tup mon_flat) (eqG_tup mon_flat eqG_flat))
theorem mon_set : Mon (fun x y H => DDic x y H ∨ DList (DTup K DFlat) x y H) := mon_dic.or (mon_list (mon_tup mon_flat))
theorem rcG_set {X : Cx} (hK : X.K = K) : RcG X 3 (DTup K fun x y H => DDic x y H ∨ DList (DTup K DFlat) x y H) := by
  subst hK
  exact rcG_tup mon_set (eqG_set rfl)
theorem dic_same {H : Hp} {a b : Addr} {ks : List Str} {f : Str → Int} (h1 : H a = some (DI ks f)) (h2 : H b = some (DI ks f)) : DDic (.ref a) (.ref b) H := ⟨a, b, ks, ks, f, f, rfl, rfl, h1, h2, rfl, fun k hk => ⟨hk, rfl⟩⟩
theorem ord_eqv {H : Hp} {a b : Addr} {ord : List (Str × Nat)} (h1 : OrdAt K H a ord) (h2 : OrdAt K H b ord) : DList (DTup K DFlat) (.ref a) (.ref b) H := by
  obtain ⟨ps, a1, a2⟩ := h1
  obtain ⟨qs, b1, b2⟩ := h2
  have l1 := paired_len a2
  have l2 := paired_len b2
  refine ⟨a, b, _, _, rfl, rfl, a1, b1, by simp; omega, fun i x y hx hy => ?_⟩
  obtain ⟨p, hp, rfl⟩ := map_get hx
  obtain ⟨q, hq, rfl⟩ := map_get hy
  obtain ⟨hi, _⟩ := List.getElem?_eq_some_iff.mp hp
  have he : ord[i]? = some (ord[i]'(by omega)) := List.getElem?_eq_getElem _
  obtain ⟨p', e1, e2⟩ := paired_get a2 he
  obtain ⟨q', e3, e4⟩ := paired_get b2 he
  rw [hp] at e1; cases e1
  rw [hq] at e3; cases e3
  exact ⟨p, q, _, _, rfl, rfl, e2, e4, Prs.cons ⟨rfl, rfl, by simp [eqV]⟩ (Prs.cons ⟨rfl, rfl, by simp [eqV]⟩ Prs.nil)⟩
theorem ok_Settled_eq (T : TX K mg) : Fok P w K mg base CX0 4 (He.ma K (He.ga K "Settled") "__eq__") ["self", "other"] [] (spEq (SetEq K)) := by
  obtain ⟨fd, F⟩ := T.fn_Settled_eq
  refine ⟨⟨fd, [], ?_, F.bindsN fun _ _ _ _ _ _ us hl => match us, hl with | [_, _], _ => rfl, .nil⟩, F.kp⟩
  refine F.ok sc_Settled_eq (fun vs H Q E h => ?_) (fun cdv A outer s H vs Q E hr h => ?_)
  · obtain ⟨_, _, rfl, _⟩ := h
    rfl
  obtain ⟨a, b, rfl, ⟨N, p0, u, ord, ⟨ta, oa, sa, la, dxa, hA⟩, ⟨tb, ob, sb, lb, dxb, hB⟩⟩, k⟩ := h
  have hu := hu_of hr
  refine ssx_nox ?_
  refine ssx_cons (ps_if (pt_not (pt_val (pe_callB (q_isi K) rfl T.f_isinstance bb_isinstance (pa_cons (pv 1) (pa_cons (pe_glob (v := .ref _) rfl T.g_Settled rfl) pa_nil))))) SSX.ps SSX.ps) ?_
  walk_at "w"
  refine w_isi (.own _) (.base (T.o_Settled hB.ob)) (b := true) (by unfold PySem.W.kitOne; simp) ?_
  walk_at "w"
  refine ssx_nil ?_
  refine ssx_cons (ps_set (i := 2) sc_Settled_eq.nd rfl (Or.inl rfl) (pe_tup (pa_cons (q_fld K (pv 0) rfl) (pa_cons (q_fld K (pv 0) rfl) (pa_cons (q_fld K (pv 0) rfl) (pa_cons (q_fld K (pv 0) rfl) pa_nil)))))) ?_
  walk_at "w"
  refine w_staken T hA ?_
  walk_at "w"
  refine w_sout T hA ?_
  walk_at "w"
  refine w_sstanding T hA ?_
  walk_at "w"
  refine w_sorder T hA ?_
  walk_at "w"
  refine w_newT (by simp) fun m H1 hm s1 h1 => ?_
  walk_at "w"
  refine ssx_cons (ps_ret (pe_cmpR (op_eqG (rcG_set (K := K) rfl) (hr.mono (by decide))) (pv 2) (pe_tup (pa_cons (q_fld K (pv 1) rfl) (pa_cons (q_fld K (pv 1) rfl) (pa_cons (q_fld K (pv 1) rfl) (pa_cons (q_fld K (pv 1) rfl) pa_nil))))) (nomark _))) ?_
  have hB1 := hB.same s1
  walk_at "w"
  refine w_staken T hB1 ?_
  walk_at "w"
  refine w_sout T hB1 ?_
  walk_at "w"
  refine w_sstanding T hB1 ?_
  walk_at "w"
  refine w_sorder T hB1 ?_
  walk_at "w"
  refine w_newT (by simp) fun m2 H2 hm2 s2 h2 => ?_
  have hA2 := (hA.same s1).same s2
  have hB2 := hB1.same s2
  refine ⟨⟨m, m2, _, _, rfl, rfl, sqT (s2 _ _ h1), sqT h2, Prs.cons (.inl (dic_same hA2.htd hB2.htd)) (Prs.cons (.inl (dic_same hA2.hod hB2.hod)) (Prs.cons (.inl (dic_same hA2.hst hB2.hst)) (Prs.cons (.inr (ord_eqv hA2.hol hB2.hol)) Prs.nil)))⟩, fun H3 e3 => ?_⟩
  exact k H3 ((s1.trans s2).trans e3)
end
end K1
namespace K1
open PySem PySem.Spec L2
open PyProof.Rows hiding St
local macro_rules | `(tactic| walk_at "hp") => `(tactic| first | assumption | exact upd_same | (refine' Same.to ?wse ?wsh; (case wse => assumption); (case wsh => walk_at "hp")) | ((rw [upd_ne (by first | assumption | (apply Ne.symm; assumption))]); walk_at "hp"))
local macro_rules | `(tactic| walk_at "sq") => `(tactic| first | assumption | exact sqL (by walk_at "hp") | exact sqT (by walk_at "hp") | (refine' Same.seqTo ?wse ?wsh; (case wse => assumption); (case wsh => walk_at "sq")) | (refine' Same.sqtTo ?wse ?wsh; (case wse => assumption); (case wsh => walk_at "sq")))
local macro_rules | `(tactic| walk_at "w1") => `(tactic| first
  | with_reducible refine w_asg ?_
  | with_reducible refine w_c ?_
  | with_reducible refine w_gname ?_
  | with_reducible refine w_if ?_
  | with_reducible refine w_ifs ?_
  | with_reducible refine w_test ?_
  | with_reducible refine w_tB ?_
  | with_reducible refine w_bl ?_
  | with_reducible refine w_op ?_
  | with_reducible refine w_nil ?_
  | with_reducible refine w_cons ?_
  | with_reducible refine w_cb ?_
  | with_reducible refine w_I0 ?_
  | with_reducible refine w_lst ?_
  | with_reducible refine w_tup ?_
  | with_reducible refine w_sl ?_
  | with_reducible refine w_noPart ?_
  | with_reducible refine w_part ?_
  | with_reducible refine w_int ?_
  | with_reducible refine w_par ?_
  | with_reducible refine w_two ?_
  | with_reducible refine w_par3 ?_
  | with_reducible refine w_three ?_
  | with_reducible refine w_ret ?_
  | with_reducible refine w_drop ?_
  | with_reducible refine w_chain ?_
  | with_reducible refine w_and ?_
  | with_reducible refine w_or ?_
  | with_reducible refine w_not ?_
  | with_reducible refine w_notV ?_
  | with_reducible refine w_andV ?_
  | with_reducible refine w_orV ?_
  | with_reducible refine w_int1 ?_
  | with_reducible refine w_true ?_
  | with_reducible refine w_false ?_
  | with_reducible refine w_for ?_
  | with_reducible refine w_rng1 ?_
  | with_reducible refine w_rng2 ?_
  | with_reducible refine w_iList ?_
  | with_reducible refine w_iTup ?_
  | with_reducible refine w_dget ?_
  | with_reducible refine w_din ?_
  | with_reducible refine w_dnotin ?_
  | with_reducible refine w_dput ?_
  | with_reducible refine w_dget2 ?_
  | with_reducible refine w_fld ?_
  | with_reducible refine w_dnew ?_
  | with_reducible refine w_lc ?_
  | with_reducible refine w_dc ?_
  | with_reducible refine w_iStr ?_
  | with_reducible refine w_str ?_
  | with_reducible refine w_iEnum ?_
  | with_reducible refine w_iZip ?_
  | with_reducible refine w_yes ?_
  | with_reducible refine w_gtup ?_
  | with_reducible refine w_gcons ?_
  | with_reducible refine w_rcons ?_
  | with_reducible refine w_gnil ?_
  | with_reducible refine w_leS ?_
  | with_reducible refine w_isN ?_
  | with_reducible refine w_notN ?_
  | with_reducible refine w_call ?_
  | with_reducible refine w_meth ?_
  | with_reducible refine w_bm ?_
  | with_reducible refine w_bm0 ?_
  | with_reducible refine isi_int ?_
  | with_reducible refine isi_bl_int ?_
  | with_reducible refine isi_int_bl ?_
  | with_reducible refine isi_bl ?_
  | with_reducible refine isi_str ?_
  | with_reducible refine isi_non_dict ?_
  | with_reducible refine isi_int_dict ?_
  | with_reducible refine w_ntrue ?_
  | with_reducible refine w_nfalse ?_
  | with_reducible refine w_wt ?_
  | with_reducible refine w_starD ?_
  | with_reducible refine w_starT ?_
  | with_reducible refine w_listVals ?_
  | with_reducible refine w_iEnumT ?_
  | with_reducible refine w_iEnumS ?_
  | with_reducible refine w_enumS ?_
  | with_reducible refine w_frz ?_
  | with_reducible refine w_iItems ?_
  | with_reducible refine w_iKeys ?_
  | with_reducible refine w_iVals ?_
  | with_reducible refine w_strS ?_
  | with_reducible refine w_daug ?_
  | with_reducible refine w_rAdd ?_
  | with_reducible refine w_sfld ?_
  | ((with_reducible refine' w_var ?wsd ?_); (case wsd => first | rfl | assumption))
  | ((with_reducible refine' w_eq ?wsd ?_); (case wsd => rfl))
  | ((with_reducible refine' w_ne ?wsd ?_); (case wsd => rfl))
  | ((with_reducible refine' w_lenL ?wsd ?_); (case wsd => walk_at "sq"))
  | ((with_reducible refine' w_lenT ?wsd ?_); (case wsd => walk_at "sq"))
  | ((with_reducible refine' w_itL ?wsd ?_); (case wsd => walk_at "sq"))
  | ((with_reducible refine' w_itT ?wsd ?_); (case wsd => walk_at "sq"))
  | ((with_reducible refine' w_rng1v ?wsd ?_); (case wsd => omega))
  | ((with_reducible refine' w_rng2v ?wsd ?_); (case wsd => omega))
  | ((with_reducible refine' w_I ?wsd ?_); (case wsd => walk_at "side"))
  | ((with_reducible refine' w_dtrue ?wsd ?_); (case wsd => first | assumption | omega | rfl | decide))
  | ((with_reducible refine' w_dfalse ?wsd ?_); (case wsd => first | assumption | omega | decide))
  | ((with_reducible refine' w_ndtrue ?wsd ?_); (case wsd => first | assumption | omega | rfl | decide))
  | ((with_reducible refine' w_ndfalse ?wsd ?_); (case wsd => first | assumption | omega | decide))
  | ((with_reducible refine' w_stD ?wsd ?_); (case wsd => walk_at "hp"))
  | ((with_reducible refine' w_stT ?wsd ?_); (case wsd => walk_at "sq"))
  | ((with_reducible refine' w_stL ?wsd ?_); (case wsd => walk_at "sq"))
  | ((with_reducible refine' w_isD ?wsd ?_); (case wsd => walk_at "hp"))
  | ((with_reducible refine' isi_tup ?wsd ?_); (case wsd => walk_at "sq"))
  | ((with_reducible refine' isi_dict ?wsd ?_); (case wsd => walk_at "hp"))
  | ((with_reducible refine' w_lenDv ?wsd ?_); (case wsd => walk_at "hp"))
  | ((with_reducible refine' w_enum ?wsd ?_); (case wsd => walk_at "sq"))
  | ((with_reducible refine' w_enumT ?wsd ?_); (case wsd => walk_at "sq"))
  | ((with_reducible refine' w_tyL ?wsd ?_); (case wsd => walk_at "sq")))
local macro_rules | `(tactic| walk_at "side") => `(tactic| first | omega | decide | (constructor <;> omega) | (constructor <;> decide) | (simp only [List.length_map, List.length_append, List.length_cons, List.length_nil, CDivN, CMul, CPow]; first | omega | decide | (constructor <;> omega)))
local macro_rules | `(tactic| walk_at "w") => `(tactic| repeat (walk_at "w1"))
def tMkBad (C : Addr) (ta : TA) : L2.St → Hp → XK → Prop := fun σ H Q => ta σ H fun vs H1 => ∃ v, vs = [v] ∧ ∀ d, H1 d = none → Q (.ref C) (some d) (upd H1 d (.xd [(("place" : Str), v)]))
def BadRule (P : Program) (K : PySem.W.Frag) (mg : Str → Option Value) : Prop := ∀ (X : Cx) (a : Expr) (ta : TA) (p pos : Pos), X.K = K → X.mg = mg → X.prog = P → Room 1 X.A → PA X [a] ta → Gl X "BadOrder" → starEach (a :: []) X.env = (false, eval a X.env) :: starEach [] X.env → (backTo pos (starEach [] X.env)).any (·.1) = false →
  PMk X (.Call (.Name "BadOrder" p) [a] [] pos) (tMkBad (He.ga K "BadOrder") ta)
def legal (N : NetD) (w0 p0 : Str → Nat) : (Str → Nat) → List (Str × Nat) → Prop
  | _, [] => True
  | u, e :: r => (e.2 : Int) ≤ N.wt w0 p0 u e.1 ∧ legal N w0 p0 (up u e.1 (u e.1 + e.2)) r
def aft : (Str → Nat) → List (Str × Nat) → Str → Nat
  | u, [] => u
  | u, e :: r => aft (up u e.1 (u e.1 + e.2)) r
theorem aft_snoc : ∀ (u : Str → Nat) (l : List (Str × Nat)) (e : Str × Nat), aft u (l ++ [e]) = up (aft u l) e.1 (aft u l e.1 + e.2)
  | _, [], _ => rfl
  | u, a :: l, e => aft_snoc (up u a.1 (u a.1 + a.2)) l e
theorem legal_snoc {N : NetD} {w0 p0 : Str → Nat} : ∀ {u : Str → Nat} {l : List (Str × Nat)} {e : Str × Nat}, legal N w0 p0 u (l ++ [e]) ↔ legal N w0 p0 u l ∧ (e.2 : Int) ≤ N.wt w0 p0 (aft u l) e.1
  | _, [], _ => ⟨fun h => ⟨trivial, h.1⟩, fun h => ⟨h.2, trivial⟩⟩
  | u, a :: l, e => ⟨fun h => ⟨⟨h.1, (legal_snoc.mp h.2).1⟩, (legal_snoc.mp h.2).2⟩, fun h => ⟨h.1.1, legal_snoc.mpr ⟨h.1.2, h.2⟩⟩⟩
theorem legal_take {N : NetD} {w0 p0 : Str → Nat} : ∀ {u : Str → Nat} {l : List (Str × Nat)} (i : Nat), legal N w0 p0 u l → legal N w0 p0 u (l.take i)
  | _, [], i, _ => by simp [legal]
  | _, _ :: _, 0, _ => trivial
  | _, _ :: _, i + 1, h => ⟨h.1, legal_take i h.2⟩
theorem legal_reach {N : NetD} {w0 p0 : Str → Nat} : ∀ {u : Str → Nat} {l : List (Str × Nat)}, (∀ e ∈ l, e.1 ∈ N.names) → N.Reach w0 p0 u → legal N w0 p0 u l → N.Reach w0 p0 (aft u l)
  | _, [], _, r, _ => r
  | _, e :: l, hn, r, h => legal_reach (l := l) (fun x hx => hn x (List.mem_cons_of_mem _ hx)) (.step r (hn e (List.mem_cons_self ..)) h.1) h.2
def spFollow (K : PySem.W.Frag) : Sp := fun vs H Q E => ∃ (b a p st wk od td dx : Addr) (N : NetD) (Hn : Hp) (w0 p0 u : Str → Nat) (ord : List (Str × Nat)), vs = [.ref b, .ref a] ∧ BoardO K Hn H b N p st wk od td dx w0 p0 u ∧ N.Ok ∧ OrdAt K Hn a ord ∧ (∀ e ∈ ord, e.1 ∈ N.names ∧ 1 ≤ e.2) ∧
  ((legal N w0 p0 u ord ∧ ∀ H', BoardO K Hn H' b N p st wk od td dx w0 p0 (aft u ord) → Q .non H') ∨
   ∃ l1 e l2, ord = l1 ++ e :: l2 ∧ legal N w0 p0 u l1 ∧ N.wt w0 p0 (aft u l1) e.1 < e.2 ∧ ∀ d H', Same Hn H' → Hn d = none → H' d = some (.xd [(("place" : Str), .int l1.length)]) → E (.ref (He.ga K "BadOrder")) (some d) H')
abbrev N_Board_follow : List Str := ["self", "order", "place", "step"]
theorem sc_Board_follow : FnScope N_Board_follow ["self", "order"] (defScope s_Board_follow) := ⟨rfl, rfl, rfl, by decide +kernel, rfl, by decide +kernel, by decide +kernel⟩
section
variable {P : Program} {w : World} {K : PySem.W.Frag} {mg : Str → Option Value} {base : Heap}
theorem ok_Board_follow (T : TX K mg) (hB : BadRule P K mg) : Fok P w K mg base (L2.CX P w) 4 (He.ma K (He.ga K "Board") "follow") ["self", "order"] [] (spFollow K) := by
  obtain ⟨fd, F⟩ := T.fn_Board_follow
  refine ⟨⟨fd, [], ?_, F.bindsN fun _ _ _ _ _ _ us hl => match us, hl with | [_, _], _ => rfl, .nil⟩, F.kp⟩
  refine F.ok sc_Board_follow (fun vs H Q E h => ?_) (fun cdv A outer s H vs Q E hr h => ?_)
  · obtain ⟨_, _, _, _, _, _, _, _, _, _, _, _, _, _, rfl, _⟩ := h
    rfl
  obtain ⟨b, a, p, st, wk, od, td, dx, N, Hn, w0, p0, u, ord, rfl, B, hok, ⟨ps, hol, hP⟩, hord, k⟩ := h
  have hu := hu_of hr
  have O_is_number := @ok_is_number P w K mg base T
  have O_Board_take := @ok_Board_take P w K mg base T
  have hpl := paired_len hP
  show SSX _ _ _ _ _
  refine ssx_cons (ps_if (pt_not (pt_val (pe_callB (q_isiT K) rfl T.f_isinstance bb_isinstance (pa_cons (pv 1) (pa_cons (pe_tup (pa_cons (pe_bltn (v := .ty "list") rfl T.f_list bt_list rfl) (pa_cons (pe_bltn (v := .ty "tuple") rfl T.f_tuple bt_tuple rfl) pa_nil))) pa_nil))))) SSX.ps SSX.ps) ?_
  walk_at "w"
  refine w_newT (by simp) fun q1 H1 hq1 s1 h1 => ?_
  walk_at "w"
  refine isi_lt_L h1 (sqL (s1 _ _ (B.sm _ _ hol))) ?_
  walk_at "w"
  refine ssx_nil ?_
  have B1 : BoardO K Hn H1 b N p st wk od td dx w0 p0 u := ⟨B.sm.trans s1, B.net, B.ob, B.nst, B.nwk, B.nod, B.ntd, B.ne, s1 _ _ B.hst, s1 _ _ B.htd, s1 _ _ B.hod, by obtain ⟨ws, wf, e, r⟩ := B.hwk; exact ⟨ws, wf, s1 _ _ e, r⟩, B.pl⟩
  refine ssx_cons (ps_for (passes_of rfl) rfl (qi_enum K rfl T.f_enumerate (pa_cons (pv 1) pa_nil)) (qg_tup K rfl (pgs_cons (pg_name (i := 2) sc_Board_follow.nd rfl (Or.inl rfl)) (pgs_cons (pg_name (i := 3) sc_Board_follow.nd rfl (Or.inl rfl)) pgs_nil))) SSX.ps) ?_
  walk_at "w"
  refine w_enum (sqL (B1.sm _ _ hol)) ?_
  refine for_walk (walk_enum (xs := ps.map V.ref)) (fun i σ H2 => ∃ o2 o3, σ = [some (.ref b), some (.ref a), o2, o3] ∧ BoardO K Hn H2 b N p st wk od td dx w0 p0 (aft u (ord.take i)) ∧ legal N w0 p0 u (ord.take i) ∧ (∀ l1 e l2, ord = l1 ++ e :: l2 → ¬ N.wt w0 p0 (aft u l1) e.1 ≥ e.2 → i ≤ l1.length)) ?_ ?_ ?_ ?_
  · exact ⟨_, _, rfl, B1, by cases ord <;> trivial, fun _ _ _ _ _ => Nat.zero_le _⟩
  · rintro i σ H2 _ ⟨_, _, _, B2, _⟩
    exact sqL (B2.sm _ _ hol)
  · rintro i x σ H2 _ hi ⟨o2, o3, rfl, B2, hleg, hbad⟩ ⟨T2, _, y, rfl, hT2, rfl, e0, ey⟩
    cases e0
    obtain ⟨q, hq, rfl⟩ := map_get ey
    rw [List.length_map] at hi
    have hio : i < ord.length := by omega
    have he : ord[i]? = some (ord[i]'hio) := List.getElem?_eq_getElem _
    obtain ⟨q', e1, e2⟩ := paired_get hP he
    rw [hq] at e1; cases e1
    obtain ⟨hen, he1⟩ := hord _ (List.getElem_mem hio)
    have hsplit : ord = ord.take i ++ ord[i]'hio :: ord.drop (i + 1) := by rw [List.getElem_cons_drop, List.take_append_drop]
    generalize ord[i]'hio = e at *
    refine g_pair ?_
    have s3 : Same H2 (upd H2 T2 (.tup [.int (i : Nat), .ref q])) := Same.alloc hT2
    have B3 : BoardO K Hn (upd H2 T2 (.tup [.int (i : Nat), .ref q])) b N p st wk od td dx w0 p0 (aft u (ord.take i)) := ⟨B2.sm.trans s3, B2.net, B2.ob, B2.nst, B2.nwk, B2.nod, B2.ntd, B2.ne, s3 _ _ B2.hst, s3 _ _ B2.htd, s3 _ _ B2.hod, by obtain ⟨ws, wf, e, r⟩ := B2.hwk; exact ⟨ws, wf, s3 _ _ e, r⟩, B2.pl⟩
    generalize upd H2 T2 (.tup [.int (i : Nat), .ref q]) = H3 at *
    clear s3 hT2 B2
    have hst : SqT K H3 q [.str e.1, .int e.2] := Same.sqt B3.sm e2
    have hb := B3.sm _ _ B3.ob
    obtain ⟨dk, di, to, ln, dxn, hN⟩ := B3.net.same B3.sm
    obtain ⟨kv, hkv, _⟩ := hN.kn
    obtain ⟨ws, wf, hwk, hzr, hnd, hwn, hwf⟩ := B3.hwk
    refine ssx_cons (ps_if (PW.pt (pw_or (pt_not (pt_val (pe_callB (q_isi K) rfl T.f_isinstance bb_isinstance (pa_cons (pv 3) (pa_cons (pe_bltn (v := .ty "tuple") rfl T.f_tuple bt_tuple rfl) pa_nil))))) (pw_or (pt_cmpR op_ne (pe_callB (q_len K) rfl T.f_len bb_len (pa_cons (pv 3) pa_nil)) pe_int (nomark _)) (pw_or (pt_not (pt_val (pe_callF O_is_number (hr.mono (by decide)) rfl T.g_is_number pass0 (pa_cons (pe_ix (q_ixT K) (pv 3) pe_int (fun _ _ => rfl)) pa_nil)))) (pw_or1 (pt_cmpR op_lt (pe_ix (q_ixT K) (pv 3) pe_int (fun _ _ => rfl)) pe_int (nomark _))))))) SSX.ps SSX.ps) ?_
    walk_at "w"
    refine w_ixT (v := .int e.2) hst rfl ?_
    walk_at "w"
    refine ⟨_, rfl, .inl ⟨⟨_, rfl⟩, ?_⟩⟩
    walk_at "w"
    refine w_ixT (v := .int e.2) hst rfl ?_
    walk_at "w"
    refine ssx_nil ?_
    refine ssx_cons (ps_if (PW.pt (pw_or (pt_not (pt_val (pe_callB (q_isi K) rfl T.f_isinstance bb_isinstance (pa_cons (pe_ix (q_ixT K) (pv 3) pe_int (fun _ _ => rfl)) (pa_cons (pe_bltn (v := .ty "str") rfl T.f_str bt_str rfl) pa_nil))))) (pw_or1 (pt_cmp (pc_dnotin hu (pe_ix (q_ixT K) (pv 3) pe_int (fun _ _ => rfl)) (q_fld K (q_fld K (pv 0) rfl) rfl)))))) SSX.ps SSX.ps) ?_
    walk_at "w"
    refine w_ixT (v := .str e.1) hst rfl ?_
    walk_at "w"
    refine w_ixT (v := .str e.1) hst rfl ?_
    walk_at "w"
    refine w_bnet T hb ?_
    refine w_nknots T hN ?_
    refine w_notinK hkv ?_
    refine w_bl ?_
    refine w_ndtrue hen ?_
    refine ssx_nil ?_
    refine ssx_cons (ps_if (pt_cmpR op_lt (pe_dget2 hu (q_fld K (pv 0) rfl) (pe_ix (q_ixT K) (pv 3) pe_int (fun _ _ => rfl)) pe_int ⟨rfl, rfl, rfl, rfl⟩) (pe_ix (q_ixT K) (pv 3) pe_int (fun _ _ => rfl)) (nomark _)) SSX.ps SSX.ps) ?_
    walk_at "w"
    refine w_bwaiting T hb ?_
    refine w_isD hwk ?_
    walk_at "w"
    refine w_ixT (v := .str e.1) hst rfl ?_
    walk_at "w"
    refine w_getOI hwk hzr ?_
    rw [hwf _ hen]
    walk_at "w"
    refine w_ixT (v := .int e.2) hst rfl ?_
    walk_at "w"
    refine w_dcases (fun hlt => ?_) fun hlt => ?_
    · refine ssx_cons (ps_raise rfl (takes_of rfl rfl rfl rfl) (hB _ _ _ _ _ rfl rfl rfl (hr.mono (by decide)) (pa_cons (pv 2) pa_nil) rfl rfl rfl)) ?_
      show tCons (tVar 2) tNil _ _ _
      walk_at "w"
      refine ⟨_, rfl, fun d hd => ?_⟩
      have htk := take_snoc he
      rcases k with ⟨hl, _⟩ | ⟨l1, e', l2, hs, h1, h2, k⟩
      · have := legal_take (i + 1) hl
        rw [htk, legal_snoc] at this
        omega
      · have h3 := hbad l1 e' l2 hs (by omega)
        have h4 : l1.length = i := by
          rcases Nat.lt_or_ge i l1.length with z | z
          · exfalso
            have h5 : ord.take (i + 1) = l1.take (i + 1) := by rw [hs, List.take_append_of_le_length (by omega)]
            have := legal_take (i + 1) h1
            rw [← h5, htk, legal_snoc] at this
            omega
          · omega
        rw [← h4]
        exact k d _ (Same.mut B3.sm (B3.sm.free hd)) (B3.sm.free hd) upd_same
    · refine ssx_nil ?_
      refine ssx_cons (ps_expr (pe_methF (pv 0) T.c_Board T.m_Board_take O_Board_take (hr.mono (by decide)) pass0 (pa_cons (pe_ix (q_ixT K) (pv 3) pe_int (fun _ _ => rfl)) (pa_cons (pe_ix (q_ixT K) (pv 3) pe_int (fun _ _ => rfl)) pa_nil)))) ?_
      walk_at "w"
      refine w_bmeth hb ?_
      walk_at "w"
      refine w_ixT (v := .str e.1) hst rfl ?_
      walk_at "w"
      refine w_ixT (v := .int e.2) hst rfl ?_
      walk_at "w"
      refine ⟨b, p, st, wk, od, td, dx, N, Hn, w0, p0, _, e.1, e.2, rfl, B3, hok, hen, fun H4 B4 => ?_⟩
      have htk := take_snoc he
      refine ssx_nil ⟨_, _, rfl, ?_, ?_, fun l1 e' l2 hs hb' => ?_⟩
      · rw [htk, aft_snoc]; exact B4
      · rw [htk]; exact legal_snoc.mpr ⟨hleg, by omega⟩
      · have := hbad l1 e' l2 hs hb'
        rcases Nat.lt_or_ge i l1.length with z | z
        · exact z
        · exfalso
          have hl : l1.length = i := by omega
          have h1 : l1 = ord.take i := by rw [hs, ← hl]; simp
          have h2 : e' = e := by
            rw [hs, ← hl] at he
            simpa using he
          subst h1 h2
          omega
  · rintro σ H2 ⟨o2, o3, rfl, B2, hleg, hbad⟩
    rw [List.length_map, hpl] at hleg hbad B2
    rw [List.take_length] at hleg B2
    refine ssx_nil ?_
    rcases k with ⟨_, k⟩ | ⟨l1, e, l2, hs, h1, h2, k⟩
    · exact k _ B2
    · have := hbad l1 e l2 hs (by omega)
      rw [hs] at this
      simp at this
      omega
end
end K1
namespace K1
open PySem PySem.Spec L2
open PyProof.Rows hiding St
local macro_rules | `(tactic| walk_at "hp") => `(tactic| first | assumption | exact upd_same | (refine' Same.to ?wse ?wsh; (case wse => assumption); (case wsh => walk_at "hp")) | ((rw [upd_ne (by first | assumption | (apply Ne.symm; assumption))]); walk_at "hp"))
local macro_rules | `(tactic| walk_at "sq") => `(tactic| first | assumption | exact sqL (by walk_at "hp") | exact sqT (by walk_at "hp") | (refine' Same.seqTo ?wse ?wsh; (case wse => assumption); (case wsh => walk_at "sq")) | (refine' Same.sqtTo ?wse ?wsh; (case wse => assumption); (case wsh => walk_at "sq")))
local macro_rules | `(tactic| walk_at "w1") => `(tactic| first
  | with_reducible refine w_asg ?_
  | with_reducible refine w_c ?_
  | with_reducible refine w_gname ?_
  | with_reducible refine w_if ?_
  | with_reducible refine w_ifs ?_
  | with_reducible refine w_test ?_
  | with_reducible refine w_tB ?_
  | with_reducible refine w_bl ?_
  | with_reducible refine w_op ?_
  | with_reducible refine w_nil ?_
  | with_reducible refine w_cons ?_
  | with_reducible refine w_cb ?_
  | with_reducible refine w_I0 ?_
  | with_reducible refine w_lst ?_
  | with_reducible refine w_tup ?_
  | with_reducible refine w_sl ?_
  | with_reducible refine w_noPart ?_
  | with_reducible refine w_part ?_
  | with_reducible refine w_int ?_
  | with_reducible refine w_par ?_
  | with_reducible refine w_two ?_
  | with_reducible refine w_par3 ?_
  | with_reducible refine w_three ?_
  | with_reducible refine w_ret ?_
  | with_reducible refine w_drop ?_
  | with_reducible refine w_chain ?_
  | with_reducible refine w_and ?_
  | with_reducible refine w_or ?_
  | with_reducible refine w_not ?_
  | with_reducible refine w_notV ?_
  | with_reducible refine w_andV ?_
  | with_reducible refine w_orV ?_
  | with_reducible refine w_int1 ?_
  | with_reducible refine w_true ?_
  | with_reducible refine w_false ?_
  | with_reducible refine w_for ?_
  | with_reducible refine w_rng1 ?_
  | with_reducible refine w_rng2 ?_
  | with_reducible refine w_iList ?_
  | with_reducible refine w_iTup ?_
  | with_reducible refine w_dget ?_
  | with_reducible refine w_din ?_
  | with_reducible refine w_dnotin ?_
  | with_reducible refine w_dput ?_
  | with_reducible refine w_dget2 ?_
  | with_reducible refine w_fld ?_
  | with_reducible refine w_dnew ?_
  | with_reducible refine w_lc ?_
  | with_reducible refine w_dc ?_
  | with_reducible refine w_iStr ?_
  | with_reducible refine w_str ?_
  | with_reducible refine w_iEnum ?_
  | with_reducible refine w_iZip ?_
  | with_reducible refine w_yes ?_
  | with_reducible refine w_gtup ?_
  | with_reducible refine w_gcons ?_
  | with_reducible refine w_rcons ?_
  | with_reducible refine w_gnil ?_
  | with_reducible refine w_leS ?_
  | with_reducible refine w_isN ?_
  | with_reducible refine w_notN ?_
  | with_reducible refine w_call ?_
  | with_reducible refine w_meth ?_
  | with_reducible refine w_bm ?_
  | with_reducible refine w_bm0 ?_
  | with_reducible refine isi_int ?_
  | with_reducible refine isi_bl_int ?_
  | with_reducible refine isi_int_bl ?_
  | with_reducible refine isi_bl ?_
  | with_reducible refine isi_str ?_
  | with_reducible refine isi_non_dict ?_
  | with_reducible refine isi_int_dict ?_
  | with_reducible refine w_ntrue ?_
  | with_reducible refine w_nfalse ?_
  | with_reducible refine w_wt ?_
  | with_reducible refine w_starD ?_
  | with_reducible refine w_starT ?_
  | with_reducible refine w_listVals ?_
  | with_reducible refine w_iEnumT ?_
  | with_reducible refine w_iEnumS ?_
  | with_reducible refine w_enumS ?_
  | with_reducible refine w_frz ?_
  | with_reducible refine w_iItems ?_
  | with_reducible refine w_iKeys ?_
  | with_reducible refine w_iVals ?_
  | with_reducible refine w_strS ?_
  | with_reducible refine w_daug ?_
  | with_reducible refine w_rAdd ?_
  | with_reducible refine w_sfld ?_
  | ((with_reducible refine' w_var ?wsd ?_); (case wsd => first | rfl | assumption))
  | ((with_reducible refine' w_eq ?wsd ?_); (case wsd => rfl))
  | ((with_reducible refine' w_ne ?wsd ?_); (case wsd => rfl))
  | ((with_reducible refine' w_lenL ?wsd ?_); (case wsd => walk_at "sq"))
  | ((with_reducible refine' w_lenT ?wsd ?_); (case wsd => walk_at "sq"))
  | ((with_reducible refine' w_itL ?wsd ?_); (case wsd => walk_at "sq"))
  | ((with_reducible refine' w_itT ?wsd ?_); (case wsd => walk_at "sq"))
  | ((with_reducible refine' w_rng1v ?wsd ?_); (case wsd => omega))
  | ((with_reducible refine' w_rng2v ?wsd ?_); (case wsd => omega))
  | ((with_reducible refine' w_I ?wsd ?_); (case wsd => walk_at "side"))
  | ((with_reducible refine' w_dtrue ?wsd ?_); (case wsd => first | assumption | omega | rfl | decide))
  | ((with_reducible refine' w_dfalse ?wsd ?_); (case wsd => first | assumption | omega | decide))
  | ((with_reducible refine' w_ndtrue ?wsd ?_); (case wsd => first | assumption | omega | rfl | decide))
  | ((with_reducible refine' w_ndfalse ?wsd ?_); (case wsd => first | assumption | omega | decide))
  | ((with_reducible refine' w_stD ?wsd ?_); (case wsd => walk_at "hp"))
  | ((with_reducible refine' w_stT ?wsd ?_); (case wsd => walk_at "sq"))
  | ((with_reducible refine' w_stL ?wsd ?_); (case wsd => walk_at "sq"))
  | ((with_reducible refine' w_isD ?wsd ?_); (case wsd => walk_at "hp"))
  | ((with_reducible refine' isi_tup ?wsd ?_); (case wsd => walk_at "sq"))
  | ((with_reducible refine' isi_dict ?wsd ?_); (case wsd => walk_at "hp"))
  | ((with_reducible refine' w_lenDv ?wsd ?_); (case wsd => walk_at "hp"))
  | ((with_reducible refine' w_enum ?wsd ?_); (case wsd => walk_at "sq"))
  | ((with_reducible refine' w_enumT ?wsd ?_); (case wsd => walk_at "sq"))
  | ((with_reducible refine' w_tyL ?wsd ?_); (case wsd => walk_at "sq")))
local macro_rules | `(tactic| walk_at "side") => `(tactic| first | omega | decide | (constructor <;> omega) | (constructor <;> decide) | (simp only [List.length_map, List.length_append, List.length_cons, List.length_nil, CDivN, CMul, CPow]; first | omega | decide | (constructor <;> omega)))
local macro_rules | `(tactic| walk_at "w") => `(tactic| repeat (walk_at "w1"))
def StIs (H : Hp) (y : V) (N : NetD) (p0 : Str → Nat) : Prop := (y = .non ∧ p0 = fun _ => 0) ∨ ∃ a, y = .ref a ∧ StAt H a N p0
theorem StAt.same {H H' : Hp} {a : Addr} {N : NetD} {p0 : Str → Nat} (e : Same H H') (h : StAt H a N p0) : StAt H' a N p0 := by
  obtain ⟨ks, h1, h2⟩ := h
  exact ⟨ks, e _ _ h1, h2⟩
theorem StIs.same {H H' : Hp} {y : V} {N : NetD} {p0 : Str → Nat} (e : Same H H') (h : StIs H y N p0) : StIs H' y N p0 := h.elim .inl fun ⟨a, h1, h2⟩ => .inr ⟨a, h1, h2.same e⟩
theorem StIs.lt {H : Hp} {y : V} {N : NetD} {p0 : Str → Nat} (hok : N.Ok) (h : StIs H y N p0) : ∀ k ∈ N.names, p0 k < N.len k := by
  intro k hk
  rcases h with ⟨_, rfl⟩ | ⟨a, _, ks, _, _, _, h⟩
  · show 0 < N.len k
    have := hok.pos hk
    unfold NetD.len NetD.rows; rw [List.length_append]; omega
  · exact h k hk
theorem BadSt.same {H H' : Hp} {y : V} {N : NetD} (e : Same H H') (h : BadSt H y N) : BadSt H' y N := h.elim .inl fun ⟨a, ks, f, h1, h2, h3⟩ => .inr ⟨a, ks, f, h1, e _ _ h2, h3⟩
theorem BadBl.same {H H' : Hp} {y : V} {N : NetD} (e : Same H H') (h : BadBl H y N) : BadBl H' y N := h.elim .inl fun ⟨a, k, v, h1, h2, h3⟩ => .inr ⟨a, k, v, h1, e _ _ h2, h3⟩
theorem BlAt.same {H H' : Hp} {a : Addr} {N : NetD} {ks : List Str} {bl : Str → Nat} (e : Same H H') (h : BlAt H a N ks bl) : BlAt H' a N ks bl := ⟨e _ _ h.1, h.2⟩
def spBegun (K : PySem.W.Frag) : Sp := fun vs H Q E => ∃ (p : Addr) (N : NetD) (x y : V), vs = [.ref p, x, y] ∧ NetAt K H p N ∧ N.Ok ∧ (
  (BadBl H x N ∧ ∀ H', Same H H' → E (.ref (He.ga K "BadBalls")) none H') ∨
  ∃ a ks bl, x = .ref a ∧ BlAt H a N ks bl ∧ ((BadSt H y N ∧ ∀ H', Same H H' → E (.ref (He.ga K "BadStanding")) none H') ∨
    ∃ p0, StIs H y N p0 ∧ ∀ b st wk od td dx Hn H', Same H Hn → H b = none → BoardO K Hn H' b N p st wk od td dx (bsum N bl ks) p0 (fun _ => 0) → Q (.ref b) H'))
abbrev N_begun : List Str := ["net", "balls", "standing", "told"]
theorem sc_begun : FnScope N_begun ["net", "balls", "standing"] (defScope s_begun) := ⟨rfl, rfl, rfl, by decide +kernel, rfl, by decide +kernel, by decide +kernel⟩
section
variable {P : Program} {w : World} {K : PySem.W.Frag} {mg : Str → Option Value} {base : Heap}
theorem ok_begun (T : TX K mg) : Fok P w K mg base (L2.CX P w) 3 (He.ga K "begun") ["net", "balls", "standing"] [] (spBegun K) := by
  obtain ⟨fd, F⟩ := T.fn_begun
  refine ⟨⟨fd, [], ?_, F.bindsN fun _ _ _ _ _ _ us hl => match us, hl with | [_, _, _], _ => rfl, .nil⟩, F.kp⟩
  refine F.ok sc_begun (fun vs H Q E h => ?_) (fun cdv A outer s H vs Q E hr h => ?_)
  · obtain ⟨_, _, _, _, rfl, _⟩ := h
    rfl
  obtain ⟨p, N, x, y, rfl, hA, hok, k⟩ := h
  have hu := hu_of hr
  have O_check_net := @ok_check_net P w K mg base T
  have O_check_balls := @ok_check_balls P w K mg base T
  have O_Net_check_standing := @ok_Net_check_standing P w K mg base T
  have O_Net_start := @ok_Net_start P w K mg base T
  have O_Board_init := @ok_Board_init P w K mg base T
  have hp : Passes (L2.CX P w) (cxOf (L2.CX P w) P w K mg base N_begun "begun" (defScope s_begun) (He.ga K "begun") cdv A outer s H E) E := passes_call (takes_of rfl rfl rfl rfl) fun _ _ _ _ h => h
  show SSX _ _ _ _ _
  refine ssx_cons (ps_expr (pe_callF O_check_net (hr.mono (by decide)) rfl T.g_check_net pass0 (pa_cons (pv 0) pa_nil))) ?_
  walk_at "w"
  refine ⟨p, N, rfl, hA, ?_⟩
  refine ssx_cons (ps_set (i := 3) sc_begun.nd rfl (Or.inl rfl) (pe_callF O_check_balls (hr.mono (by decide)) rfl T.g_check_balls hp (pa_cons (pv 0) (pa_cons (pv 1) pa_nil)))) ?_
  walk_at "w"
  refine ⟨p, N, x, rfl, hA, hok, ?_⟩
  rcases k with ⟨hb, k⟩ | ⟨a, ks, bl, rfl, hb, k⟩
  · exact .inr ⟨hb, k⟩
  refine .inl ⟨a, ks, bl, rfl, hb, fun d ws H1 s1 hd hnd hwn hzr h1 => ?_⟩
  walk_at "w"
  refine ssx_cons (ps_if (pt_cmpR k_notN (pv 2) pe_non (nomark _)) SSX.ps SSX.ps) ?_
  walk_at "w"
  have hA1 := hA.same s1
  obtain ⟨dk, di, to, ln, dxn, hN1⟩ := id hA1
  rcases k with ⟨hbs, k⟩ | ⟨p0, hst, k⟩
  · have : ¬ y = .non := by
      rcases hbs with ⟨i, rfl⟩ | ⟨a, ks, f, rfl, _⟩ <;> intro z <;> cases z
    refine w_ndfalse this ?_
    refine ssx_cons (ps_expr (pe_methF (pv 0) T.c_Net T.m_Net_check_standing O_Net_check_standing (hr.mono (by decide)) hp (pa_cons (pv 2) pa_nil))) ?_
    walk_at "w"
    refine w_nmeth hN1 ?_
    walk_at "w"
    exact ⟨p, N, y, rfl, hA1, hok, .inr ⟨hbs.same s1, fun H' s' => k H' (s1.trans s')⟩⟩
  have fin : ∀ (a0 : Addr) (H2 : Hp), Same H1 H2 → StAt H2 a0 N p0 → ∀ (b dx : Addr), H2 b = none → H2 dx = none → dx ≠ b → ∀ (Q2 : VK) (E' : XK),
      (∀ st wk od td H', BoardO K (upd H2 b (.ins (He.ga K "Board") dx (boardF p st wk od td))) H' b N p st wk od td dx (bsum N bl ks) p0 (fun _ => 0) → Q2 .non H') →
      spBoardInit K [.ref b, .ref p, .ref a0, .ref d] (upd (upd H2 dx (.own b)) b (.ins (He.ga K "Board") dx [])) Q2 E' := by
    intro a0 H2 s2 hs2 b dx hb0 hdx hne Q2 E' hq
    refine ⟨b, p, a0, d, dx, N, H2, p0, bsum N bl ks, ws, rfl, upd_same, hb0, ?_, hA1.same s2, hok, hs2, s2 _ _ h1, hzr, hnd, hwn, hq⟩
    exact Same.mut (Same.alloc hdx) hb0
  rcases hst with ⟨rfl, rfl⟩ | ⟨a0, rfl, hst⟩
  · refine w_ndtrue rfl ?_
    refine ssx_nil ?_
    refine ssx_cons (ps_ret (pe_makeF T.mk_Board O_Board_init (hr.mono (by decide)) rfl T.g_Board pass0 (pa_cons (pv 0) (pa_cons (pe_ifExp (pt_cmpR k_isN (pv 2) pe_non (nomark _)) (pe_meth0F (pv 0) T.c_Net T.m_Net_start O_Net_start (hr.mono (by decide)) pass0) (pv 2)) (pa_cons (pv 3) pa_nil))))) ?_
    refine w_ret ?_
    show tCons _ _ _ _ _
    walk_at "w"
    refine w_nmeth hN1 ?_
    walk_at "w"
    refine ⟨p, N, rfl, hA1, hok, fun d2 H2 s2 hd2 h2 => ?_⟩
    walk_at "w"
    intro b dx hb0 hdx hne
    refine fin d2 H2 s2 ⟨N.names, h2, rfl, fun _ h => h, fun k hk => ?_⟩ b dx hb0 hdx hne _ _ fun st wk od td H' B => And.intro rfl ?_
    · exact StIs.lt (H := H) (y := .non) hok (.inl ⟨rfl, rfl⟩) k hk
    · exact k b st wk od td dx _ H' ((s1.trans s2).trans (Same.alloc hb0)) ((s1.trans s2).free hb0) B
  · refine w_ndfalse (by intro z; cases z) ?_
    refine ssx_cons (ps_expr (pe_methF (pv 0) T.c_Net T.m_Net_check_standing O_Net_check_standing (hr.mono (by decide)) hp (pa_cons (pv 2) pa_nil))) ?_
    walk_at "w"
    refine w_nmeth hN1 ?_
    walk_at "w"
    refine ⟨p, N, _, rfl, hA1, hok, .inl ⟨a0, p0, rfl, hst.same s1, ?_⟩⟩
    refine ssx_nil ?_
    refine ssx_cons (ps_ret (pe_makeF T.mk_Board O_Board_init (hr.mono (by decide)) rfl T.g_Board pass0 (pa_cons (pv 0) (pa_cons (pe_ifExp (pt_cmpR k_isN (pv 2) pe_non (nomark _)) (pe_meth0F (pv 0) T.c_Net T.m_Net_start O_Net_start (hr.mono (by decide)) pass0) (pv 2)) (pa_cons (pv 3) pa_nil))))) ?_
    refine w_ret ?_
    show tCons _ _ _ _ _
    walk_at "w"
    refine w_dfalse (by intro z; cases z) ?_
    walk_at "w"
    intro b dx hb0 hdx hne
    refine fin a0 H1 (Same.refl _) (hst.same s1) b dx hb0 hdx hne _ _ fun st wk od td H' B => And.intro rfl ?_
    exact k b st wk od td dx _ H' (s1.trans (Same.alloc hb0)) (s1.free hb0) B
end
end K1
namespace K1
open PySem PySem.Spec L2
open PyProof.Rows hiding St
local macro_rules | `(tactic| walk_at "hp") => `(tactic| first | assumption | exact upd_same | (refine' Same.to ?wse ?wsh; (case wse => assumption); (case wsh => walk_at "hp")) | ((rw [upd_ne (by first | assumption | (apply Ne.symm; assumption))]); walk_at "hp"))
local macro_rules | `(tactic| walk_at "sq") => `(tactic| first | assumption | exact sqL (by walk_at "hp") | exact sqT (by walk_at "hp") | (refine' Same.seqTo ?wse ?wsh; (case wse => assumption); (case wsh => walk_at "sq")) | (refine' Same.sqtTo ?wse ?wsh; (case wse => assumption); (case wsh => walk_at "sq")))
local macro_rules | `(tactic| walk_at "w1") => `(tactic| first
  | with_reducible refine w_asg ?_
  | with_reducible refine w_c ?_
  | with_reducible refine w_gname ?_
  | with_reducible refine w_if ?_
  | with_reducible refine w_ifs ?_
  | with_reducible refine w_test ?_
  | with_reducible refine w_tB ?_
  | with_reducible refine w_bl ?_
  | with_reducible refine w_op ?_
  | with_reducible refine w_nil ?_
  | with_reducible refine w_cons ?_
  | with_reducible refine w_cb ?_
  | with_reducible refine w_I0 ?_
  | with_reducible refine w_lst ?_
  | with_reducible refine w_tup ?_
  | with_reducible refine w_sl ?_
  | with_reducible refine w_noPart ?_
  | with_reducible refine w_part ?_
  | with_reducible refine w_int ?_
  | with_reducible refine w_par ?_
  | with_reducible refine w_two ?_
  | with_reducible refine w_par3 ?_
  | with_reducible refine w_three ?_
  | with_reducible refine w_ret ?_
  | with_reducible refine w_drop ?_
  | with_reducible refine w_chain ?_
  | with_reducible refine w_and ?_
  | with_reducible refine w_or ?_
  | with_reducible refine w_not ?_
  | with_reducible refine w_notV ?_
  | with_reducible refine w_andV ?_
  | with_reducible refine w_orV ?_
  | with_reducible refine w_int1 ?_
  | with_reducible refine w_true ?_
  | with_reducible refine w_false ?_
  | with_reducible refine w_for ?_
  | with_reducible refine w_rng1 ?_
  | with_reducible refine w_rng2 ?_
  | with_reducible refine w_iList ?_
  | with_reducible refine w_iTup ?_
  | with_reducible refine w_dget ?_
  | with_reducible refine w_din ?_
  | with_reducible refine w_dnotin ?_
  | with_reducible refine w_dput ?_
  | with_reducible refine w_dget2 ?_
  | with_reducible refine w_fld ?_
  | with_reducible refine w_dnew ?_
  | with_reducible refine w_lc ?_
  | with_reducible refine w_dc ?_
  | with_reducible refine w_iStr ?_
  | with_reducible refine w_str ?_
  | with_reducible refine w_iEnum ?_
  | with_reducible refine w_iZip ?_
  | with_reducible refine w_yes ?_
  | with_reducible refine w_gtup ?_
  | with_reducible refine w_gcons ?_
  | with_reducible refine w_rcons ?_
  | with_reducible refine w_gnil ?_
  | with_reducible refine w_leS ?_
  | with_reducible refine w_isN ?_
  | with_reducible refine w_notN ?_
  | with_reducible refine w_call ?_
  | with_reducible refine w_meth ?_
  | with_reducible refine w_bm ?_
  | with_reducible refine w_bm0 ?_
  | with_reducible refine isi_int ?_
  | with_reducible refine isi_bl_int ?_
  | with_reducible refine isi_int_bl ?_
  | with_reducible refine isi_bl ?_
  | with_reducible refine isi_str ?_
  | with_reducible refine isi_non_dict ?_
  | with_reducible refine isi_int_dict ?_
  | with_reducible refine w_ntrue ?_
  | with_reducible refine w_nfalse ?_
  | with_reducible refine w_wt ?_
  | with_reducible refine w_starD ?_
  | with_reducible refine w_starT ?_
  | with_reducible refine w_listVals ?_
  | with_reducible refine w_iEnumT ?_
  | with_reducible refine w_iEnumS ?_
  | with_reducible refine w_enumS ?_
  | with_reducible refine w_frz ?_
  | with_reducible refine w_iItems ?_
  | with_reducible refine w_iKeys ?_
  | with_reducible refine w_iVals ?_
  | with_reducible refine w_strS ?_
  | with_reducible refine w_daug ?_
  | with_reducible refine w_rAdd ?_
  | with_reducible refine w_sfld ?_
  | ((with_reducible refine' w_var ?wsd ?_); (case wsd => first | rfl | assumption))
  | ((with_reducible refine' w_eq ?wsd ?_); (case wsd => rfl))
  | ((with_reducible refine' w_ne ?wsd ?_); (case wsd => rfl))
  | ((with_reducible refine' w_lenL ?wsd ?_); (case wsd => walk_at "sq"))
  | ((with_reducible refine' w_lenT ?wsd ?_); (case wsd => walk_at "sq"))
  | ((with_reducible refine' w_itL ?wsd ?_); (case wsd => walk_at "sq"))
  | ((with_reducible refine' w_itT ?wsd ?_); (case wsd => walk_at "sq"))
  | ((with_reducible refine' w_rng1v ?wsd ?_); (case wsd => omega))
  | ((with_reducible refine' w_rng2v ?wsd ?_); (case wsd => omega))
  | ((with_reducible refine' w_I ?wsd ?_); (case wsd => walk_at "side"))
  | ((with_reducible refine' w_dtrue ?wsd ?_); (case wsd => first | assumption | omega | rfl | decide))
  | ((with_reducible refine' w_dfalse ?wsd ?_); (case wsd => first | assumption | omega | decide))
  | ((with_reducible refine' w_ndtrue ?wsd ?_); (case wsd => first | assumption | omega | rfl | decide))
  | ((with_reducible refine' w_ndfalse ?wsd ?_); (case wsd => first | assumption | omega | decide))
  | ((with_reducible refine' w_stD ?wsd ?_); (case wsd => walk_at "hp"))
  | ((with_reducible refine' w_stT ?wsd ?_); (case wsd => walk_at "sq"))
  | ((with_reducible refine' w_stL ?wsd ?_); (case wsd => walk_at "sq"))
  | ((with_reducible refine' w_isD ?wsd ?_); (case wsd => walk_at "hp"))
  | ((with_reducible refine' isi_tup ?wsd ?_); (case wsd => walk_at "sq"))
  | ((with_reducible refine' isi_dict ?wsd ?_); (case wsd => walk_at "hp"))
  | ((with_reducible refine' w_lenDv ?wsd ?_); (case wsd => walk_at "hp"))
  | ((with_reducible refine' w_enum ?wsd ?_); (case wsd => walk_at "sq"))
  | ((with_reducible refine' w_enumT ?wsd ?_); (case wsd => walk_at "sq"))
  | ((with_reducible refine' w_tyL ?wsd ?_); (case wsd => walk_at "sq")))
local macro_rules | `(tactic| walk_at "side") => `(tactic| first | omega | decide | (constructor <;> omega) | (constructor <;> decide) | (simp only [List.length_map, List.length_append, List.length_cons, List.length_nil, CDivN, CMul, CPow]; first | omega | decide | (constructor <;> omega)))
local macro_rules | `(tactic| walk_at "w") => `(tactic| repeat (walk_at "w1"))
def MatAt (K : PySem.W.Frag) (H : Hp) (l : Addr) (M : List (List Int)) : Prop := ∃ rs : List Addr, H l = some (.lst (rs.map V.ref)) ∧ Paired (fun r row => SqL K H r (row.map V.int)) rs M
namespace Mat
def sweepTo (b : Int) (a n : Nat) (M : List (List Int)) : List (List Int) := M.mapIdx fun i r => if i ≤ a ∨ n ≤ i then r else elim b (cell M a a) (r.getD a 0) r (M.getD a [])
theorem sweepTo_len {b : Int} {a n : Nat} {M : List (List Int)} : (sweepTo b a n M).length = M.length := by simp [sweepTo]
theorem sweepTo_get {b : Int} {a n i : Nat} {M : List (List Int)} {r : List Int} (h : M[i]? = some r) : (sweepTo b a n M)[i]? = some (if i ≤ a ∨ n ≤ i then r else elim b (cell M a a) (r.getD a 0) r (M.getD a [])) := by
  simp [sweepTo, List.getElem?_mapIdx, h]
theorem sweepTo_start {b : Int} {a : Nat} {M : List (List Int)} : sweepTo b a (a + 1) M = M := by
  refine List.ext_getElem? fun i => ?_
  cases h : M[i]? with
  | none => rw [List.getElem?_eq_none]; rw [sweepTo_len]; exact List.getElem?_eq_none_iff.mp h
  | some r => rw [sweepTo_get h, if_pos (by omega)]
theorem sweepTo_end {b : Int} {a : Nat} {M : List (List Int)} : sweepTo b a M.length M = sweep b a M := by
  refine List.ext_getElem? fun i => ?_
  cases h : M[i]? with
  | none =>
    have := List.getElem?_eq_none_iff.mp h
    rw [List.getElem?_eq_none (by rw [sweepTo_len]; exact this), List.getElem?_eq_none (by simp [sweep]; exact this)]
  | some r =>
    obtain ⟨hi, _⟩ := List.getElem?_eq_some_iff.mp h
    rw [sweepTo_get h]
    simp only [sweep, List.getElem?_mapIdx, h, Option.map_some]
    congr 1
    by_cases z : i ≤ a
    · rw [if_pos (.inl z), if_pos z]
    · rw [if_neg (by omega), if_neg z]
theorem sweepTo_step {b : Int} {a n : Nat} {M : List (List Int)} {r : List Int} (h : M[n]? = some r) (ha : a < n) : sweepTo b a (n + 1) M = (sweepTo b a n M).set n (elim b (cell M a a) (r.getD a 0) r (M.getD a [])) := by
  obtain ⟨hn, _⟩ := List.getElem?_eq_some_iff.mp h
  refine List.ext_getElem? fun i => ?_
  by_cases e : n = i
  · subst e
    rw [List.getElem?_set_self (by rw [sweepTo_len]; exact hn), sweepTo_get h, if_neg (by omega)]
  · rw [List.getElem?_set_ne e]
    cases hi : M[i]? with
    | none =>
      have := List.getElem?_eq_none_iff.mp hi
      rw [List.getElem?_eq_none (by rw [sweepTo_len]; exact this), List.getElem?_eq_none (by rw [sweepTo_len]; exact this)]
    | some q =>
      rw [sweepTo_get hi, sweepTo_get hi]
      congr 1
      by_cases z : i ≤ a ∨ n ≤ i
      · rw [if_pos z, if_pos (by omega)]
      · rw [if_neg z, if_neg (by omega)]
def bnd : Nat → Int
  | 0 => 10
  | a + 1 => 2 * (bnd a * bnd a)
theorem bnd_le {a : Nat} (h : a ≤ 2) : 10 ≤ bnd a ∧ bnd a ≤ 80000 := by
  have : a = 0 ∨ a = 1 ∨ a = 2 := by omega
  rcases this with rfl | rfl | rfl <;> decide
def Bd (c : Int) (M : List (List Int)) : Prop := ∀ r ∈ M, ∀ x ∈ r, -c ≤ x ∧ x ≤ c
theorem mul_bd {x y c : Int} (hx : -c ≤ x ∧ x ≤ c) (hy : -c ≤ y ∧ y ≤ c) : -(c * c) ≤ x * y ∧ x * y ≤ c * c := by
  have h1 : 0 ≤ (c - x) * (c + y) := Int.mul_nonneg (by omega) (by omega)
  have h2 : 0 ≤ (c + x) * (c - y) := Int.mul_nonneg (by omega) (by omega)
  have h3 : 0 ≤ (c - x) * (c - y) := Int.mul_nonneg (by omega) (by omega)
  have h4 : 0 ≤ (c + x) * (c + y) := Int.mul_nonneg (by omega) (by omega)
  rw [Int.sub_mul, Int.mul_add, Int.mul_add] at h1
  rw [Int.add_mul, Int.mul_sub, Int.mul_sub] at h2
  rw [Int.sub_mul, Int.mul_sub, Int.mul_sub] at h3
  rw [Int.add_mul, Int.mul_add, Int.mul_add] at h4
  have := Int.mul_comm c y
  have := Int.mul_comm x c
  constructor <;> omega
theorem fdiv_mag {x b c : Int} (hb : 1 ≤ b) (h : -c ≤ x ∧ x ≤ c) : -c ≤ x.fdiv b ∧ x.fdiv b ≤ c := by
  rw [Int.fdiv_eq_ediv_of_nonneg _ (by omega)]
  have hc : 0 ≤ c := by omega
  constructor
  · refine (Int.le_ediv_iff_mul_le (by omega)).mpr ?_
    have := Int.mul_le_mul_of_nonneg_left hb hc
    rw [Int.neg_mul]; omega
  · exact Int.ediv_le_of_le_mul (by omega) (by
      have := Int.mul_le_mul_of_nonneg_left hb hc
      omega)
theorem getD_bd {c : Int} {M : List (List Int)} (hc : 0 ≤ c) (h : Bd c M) (i j : Nat) : -c ≤ (M.getD i []).getD j 0 ∧ (M.getD i []).getD j 0 ≤ c := by
  rw [List.getD_eq_getElem?_getD, List.getD_eq_getElem?_getD]
  cases e : M[i]? with
  | none => simp; exact hc
  | some r =>
    show -c ≤ (r[j]?).getD 0 ∧ (r[j]?).getD 0 ≤ c
    cases e2 : r[j]? with
    | none => simp; exact hc
    | some x => exact h r (List.mem_of_getElem? e) x (List.mem_of_getElem? e2)
theorem sweep_bd {c b : Int} {a : Nat} {M : List (List Int)} (hc : 1 ≤ c) (hb : 1 ≤ b) (h : Bd c M) : Bd (2 * (c * c)) (sweep b a M) := by
  intro r hr x hx
  have hcc : c ≤ c * c := by have := Int.mul_le_mul_of_nonneg_left hc (show (0 : Int) ≤ c by omega); omega
  obtain ⟨i, hi⟩ := List.mem_iff_getElem?.mp hr
  simp only [sweep, List.getElem?_mapIdx] at hi
  cases e : M[i]? with
  | none => rw [e] at hi; cases hi
  | some q =>
    rw [e] at hi
    simp only [Option.map_some, Option.some.injEq] at hi
    by_cases z : i ≤ a
    · rw [if_pos z] at hi
      subst hi
      have := h _ (List.mem_of_getElem? e) x hx
      omega
    · rw [if_neg z] at hi
      subst hi
      obtain ⟨y, hy, rfl⟩ := List.mem_map.mp hx
      have h1 := List.of_mem_zip (show (y.1, y.2) ∈ q.zip (M.getD a []) from hy)
      have b1 := h _ (List.mem_of_getElem? e) _ h1.1
      have b2 : -c ≤ y.2 ∧ y.2 ≤ c := by
        rw [List.getD_eq_getElem?_getD] at h1
        cases e2 : M[a]? with
        | none => rw [e2] at h1; simp at h1
        | some r2 => rw [e2] at h1; exact h r2 (List.mem_of_getElem? e2) _ h1.2
      have b3 : -c ≤ cell M a a ∧ cell M a a ≤ c := getD_bd (by omega) h a a
      have b4 : -c ≤ q.getD a 0 ∧ q.getD a 0 ≤ c := by
        have := getD_bd (by omega) h i a
        rw [List.getD_eq_getElem?_getD (l := M), e] at this
        exact this
      have m1 := mul_bd b3 b1
      have m2 := mul_bd b4 b2
      exact fdiv_mag hb (by constructor <;> omega)
theorem elim_len {b p f : Int} {r q : List Int} (h : r.length = q.length) : (elim b p f r q).length = r.length := by simp [elim, h]
theorem sweep_sq {b : Int} {a : Nat} {M : List (List Int)} (ha : a < M.length) (h : Sq M) : Sq (sweep b a M) := by
  intro r hr
  obtain ⟨i, hi⟩ := List.mem_iff_getElem?.mp hr
  simp only [sweep, List.getElem?_mapIdx] at hi
  rw [show (sweep b a M).length = M.length by simp [sweep]]
  cases e : M[i]? with
  | none => rw [e] at hi; cases hi
  | some q =>
    rw [e] at hi
    simp only [Option.map_some, Option.some.injEq] at hi
    have hq := h q (List.mem_of_getElem? e)
    by_cases z : i ≤ a
    · rw [if_pos z] at hi; subst hi; exact hq
    · rw [if_neg z] at hi; subst hi
      have : (M.getD a []).length = M.length := by
        rw [List.getD_eq_getElem?_getD, List.getElem?_eq_getElem ha]
        exact h _ (List.getElem_mem _)
      rw [elim_len (by omega), hq]
theorem sweep_len {b : Int} {a : Nat} {M : List (List Int)} : (sweep b a M).length = M.length := by simp [sweep]
end Mat
theorem paired_set {α β : Type} {F : α → β → Prop} {x : α} {y : β} : ∀ {xs : List α} {ys : List β} (i : Nat), Paired F xs ys → F x y → Paired F (xs.set i x) (ys.set i y)
  | _, _, _, .nil, _ => .nil
  | _, _, 0, .cons _ t, h => .cons h t
  | _, _, i + 1, .cons r t, h => .cons r (paired_set i t h)
theorem cell_get {M : List (List Int)} {i j : Nat} {r : List Int} {x : Int} (h1 : M[i]? = some r) (h2 : r[j]? = some x) : Mat.cell M i j = x := by
  simp [Mat.cell, List.getD_eq_getElem?_getD, h1, h2]
def MatF (H : Hp) (l q : Addr) (M : List (List Int)) : Prop := ∃ rs : List Addr, H l = some (.lst (rs.map V.ref)) ∧ Paired (fun r row => H r = some (.lst (row.map V.int))) rs M ∧ l ∉ rs ∧ q ∉ rs ∧ l ≠ q
theorem ixn {n j : Nat} (hj : j < n) : ixN n (j : Int) = some j := by
  unfold ixN
  rw [if_pos (by omega), if_pos (by omega)]
  simp
theorem paired_at {α β : Type} {F : α → β → Prop} {xs : List α} {ys : List β} {i : Nat} {y : β} (h : Paired F xs ys) (e : ys[i]? = some y) : ∃ x, xs[i]? = some x ∧ F x y ∧ x ∈ xs := by
  obtain ⟨x, h1, h2⟩ := paired_get h e
  exact ⟨x, h1, h2, List.mem_of_getElem? h1⟩
def spMinors (K : PySem.W.Frag) : Sp := fun vs H Q _ => ∃ (l : Addr) (M : List (List Int)), vs = [.ref l] ∧ MatAt K H l M ∧ Mat.Sq M ∧ 1 ≤ M.length ∧ M.length ≤ 4 ∧ Mat.Bd 10 M ∧ ∀ q H', Same H H' → H' q = some (.lst ((Mat.minors M).map V.int)) → Q (.ref q) H'
abbrev N_minors_of : List Str := ["rows", "told", "before", "found", "at", "pivot", "low", "factor", "row", "here", "there"]
theorem sc_minors_of : FnScope N_minors_of ["rows"] (defScope s_minors_of) := ⟨rfl, rfl, rfl, by decide +kernel, rfl, by decide +kernel, by decide +kernel⟩
section
variable {P : Program} {w : World} {K : PySem.W.Frag} {mg : Str → Option Value} {base : Heap}
theorem ok_minors_of (T : TX K mg) : Fok P w K mg base CX0 1 (He.ga K "minors_of") ["rows"] [] (spMinors K) := by
  obtain ⟨fd, F⟩ := T.fn_minors_of
  refine ⟨⟨fd, [], ?_, F.bindsN fun _ _ _ _ _ _ us hl => match us, hl with | [_], _ => rfl, .nil⟩, F.kp⟩
  refine F.ok sc_minors_of (fun vs H Q E h => ?_) (fun cdv A outer s H vs Q E hr h => ?_)
  · obtain ⟨_, _, rfl, _⟩ := h
    rfl
  obtain ⟨l0, M, rfl, ⟨rs0, hl0, hP0⟩, hsq, h1, h4, hbd, k⟩ := h
  have hu := hu_of hr
  have hrl0 := paired_len hP0
  refine ssx_nox ?_
  refine ssx_cons (ps_asg (pe_tup (pa_cons (pe_lc (own := [("row", 8)]) rfl sc_minors_of.nd (qi_list K (pv 0)) (blkOk_by (N := N_minors_of) (sc := defScope s_minors_of) (by decide +kernel)) (fun _ _ _ _ _ => (pg_name (i := 8) sc_minors_of.nd rfl (Or.inl rfl))) (fun _ _ _ _ _ => pts_nil) (fun _ _ _ _ _ => (pe_callTy (q_list K) rfl T.f_list bt_list (pa_cons (pv 8) pa_nil)))) (pa_cons pe_int (pa_cons (pe_lst pa_nil) pa_nil)))) (qg_tup K rfl (pgs_cons (pg_name (i := 1) sc_minors_of.nd rfl (Or.inl rfl)) (pgs_cons (pg_name (i := 2) sc_minors_of.nd rfl (Or.inr rfl)) (pgs_cons (pg_name (i := 3) sc_minors_of.nd rfl (Or.inl rfl)) pgs_nil))))) ?_
  walk_at "w"
  refine rlc (walk_list (xs := rs0.map V.ref)) (fun D i acc H2 => ∃ qs : List Addr, acc = qs.map V.ref ∧ Paired (fun r row => H2 r = some (.lst (row.map V.int))) qs (M.take i) ∧ D ∉ qs) (by rw [List.length_map]; omega) (fun H' s' => sqL (s' _ _ hl0)) (fun D H2 hD s2 _ => ⟨[], rfl, .nil, by simp⟩) ?_ ?_ ?_
  · rintro D i acc H2 H3 ⟨qs, rfl, hq, hDq⟩ hk
    refine ⟨qs, rfl, ?_, hDq⟩
    have key : ∀ {xs : List Addr} {ys : List (List Int)}, Paired (fun r row => H2 r = some (.lst (row.map V.int))) xs ys → D ∉ xs → Paired (fun r row => H3 r = some (.lst (row.map V.int))) xs ys := by
      intro xs ys h
      induction h with
      | nil => exact fun _ => .nil
      | cons r t ih => exact fun hd => .cons (hk _ _ (fun z => hd (by simp [z])) r) (ih fun z => hd (List.mem_cons_of_mem _ z))
    exact key hq hDq
  · rintro D i acc x H2 _ hi _ hD h2D s2 ⟨qs, rfl, hq, hDq⟩ ⟨rfl, hx⟩ KT KF hKT _
    obtain ⟨r, hr0, rfl⟩ := map_get hx
    rw [List.length_map] at hi
    have him : i < M.length := by omega
    have hMi : M[i]? = some (M[i]'him) := List.getElem?_eq_getElem _
    obtain ⟨r', e1, e2, _⟩ := paired_at hP0 hMi
    rw [hr0] at e1; cases e1
    walk_at "w"
    refine ⟨rfl, ?_⟩
    walk_at "w"
    refine w_listL (s2.seq e2) fun z H3 hz s3 h3 => ?_
    refine hKT _ _ s3 ⟨qs ++ [z], by simp, ?_, ?_⟩
    · rw [take_snoc hMi]
      exact paired_snoc (paired_imp hq fun _ _ e => s3 _ _ e) h3
    · intro y
      rcases List.mem_append.mp y with y | y
      · exact hDq y
      · rw [List.mem_singleton.mp y] at h2D; rw [h2D] at hz; cases hz
  · rintro D acc H2 hD s2 h2D _ ⟨qs, rfl, hq, hDq⟩
    rw [List.length_map, hrl0, List.take_length] at hq
    walk_at "w"
    refine w_newL (by simp) fun q H3 hq3 s3 h3 => ?_
    walk_at "w"
    refine w_newT (by simp) fun tp H4 htp s4 h4 => ?_
    walk_at "w"
    refine w_tu (sqT h4) rfl ?_
    walk_at "w"
    have hDq' : D ≠ q := fun z => by rw [← z, h2D] at hq3; cases hq3
    have hqqs : q ∉ qs := fun z => by
      obtain ⟨j, hj, e⟩ := List.mem_iff_getElem.mp z
      have hl := paired_len hq
      obtain ⟨x, e1, e2, _⟩ := paired_at hq (List.getElem?_eq_getElem (show j < M.length by omega))
      rw [List.getElem?_eq_getElem hj, e] at e1
      cases e1
      rw [e2] at hq3; cases hq3
    have s04 := (s2.trans s3).trans s4
    have hF4 : MatF H4 D q M := ⟨qs, s4 _ _ (s3 _ _ h2D), paired_imp hq fun _ _ e => s4 _ _ (s3 _ _ e), hDq, hqqs, hDq'⟩
    have h4q := s4 _ _ h3
    have hq0 : H q = none := s2.free hq3
    clear hq h2D h3 h4 s2 s3 s4 hq3 htp
    refine ssx_cons (ps_for PassesOwn.never rfl (pi_range1 rfl T.f_range (pa_cons (pe_callB (q_len K) rfl T.f_len bb_len (pa_cons (pv 1) pa_nil)) pa_nil)) (pg_name (i := 4) sc_minors_of.nd rfl (Or.inl rfl)) SSX.ps) ?_
    obtain ⟨rs4, e4, p4, _⟩ := id hF4
    have hrs4 := paired_len p4
    walk_at "w"
    rw [List.length_map]
    refine w_rng1v (by omega) ?_
    rw [Int.toNat_natCast]
    refine for_range (fun i σ H2 => ∃ b Mi f o4 o5 o6 o7, σ = [some (.ref l0), some (.ref D), some (.int b), some (.ref q), o4, o5, o6, o7, none, none, none] ∧ Same H H2 ∧ H2 q = some (.lst (f.map V.int)) ∧ MatF H2 D q Mi ∧ Mat.Sq Mi ∧ Mi.length = M.length ∧ Mat.Bd (Mat.bnd i) Mi ∧ 1 ≤ b ∧ b ≤ Mat.bnd i ∧ f.length = i ∧
      f ++ Mat.mins Mi b i (M.length - i) = Mat.minors M) ?_ ?_ ?_
    · exact ⟨1, M, [], _, _, _, _, rfl, s04, h4q, hF4, hsq, rfl, hbd, by decide, by decide, rfl, by rw [Nat.sub_zero]; rfl⟩
    · rintro i σ H2 hi ⟨b, Mi, f, o4, o5, o6, o7, rfl, s2, h2q, ⟨rs, h2D, hP, hDr, hqr, _⟩, hsqi, hli, hbdi, hb1, hbi, hfl, hmi⟩
      have hil : i < Mi.length := by omega
      have hMi : Mi[i]? = some (Mi[i]'hil) := List.getElem?_eq_getElem _
      obtain ⟨ra, ha1, ha2, ha3⟩ := paired_at hP hMi
      have hral := hsqi _ (List.getElem_mem hil)
      have hcel : (Mi[i]'hil)[i]? = some (Mat.cell Mi i i) := by
        rw [cell_get hMi (List.getElem?_eq_getElem (by omega))]
        exact List.getElem?_eq_getElem (by omega)
      have hgi : Mi.getD i [] = Mi[i]'hil := by rw [List.getD_eq_getElem?_getD, hMi]; rfl
      generalize Mi[i]'hil = rowi at *
      have hrl := paired_len hP
      have hsub : M.length - i = (M.length - (i + 1)) + 1 := by omega
      rw [hsub] at hmi
      simp only [Mat.mins] at hmi
      rw [Int.zero_add]
      walk_at "w"
      refine ssx_cons (ps_set (i := 5) sc_minors_of.nd rfl (Or.inr rfl) (pe_ix (q_ixL K) (pe_ix (q_ixL K) (pv 1) (pv 4) (fun _ _ => rfl)) (pv 4) (fun _ _ => rfl))) ?_
      walk_at "w"
      refine w_ixL (sqL h2D) (atI_nat (by rw [List.getElem?_map, ha1]; rfl)) ?_
      walk_at "w"
      refine w_ixL (sqL ha2) (atI_nat (by rw [List.getElem?_map, hcel]; rfl)) ?_
      walk_at "w"
      refine ssx_cons (ps_expr (q_bm K PySem.F.plainAttrs_list PySem.F.slot_list_append PySem.F.type_list_append mt_append (pv 3) (pa_cons (pv 5) pa_nil))) ?_
      walk_at "w"
      refine w_app h2q (by rw [List.length_map]; omega) ?_
      walk_at "w"
      have s3 : Same H (upd H2 q (.lst (f.map V.int ++ [.int (Mat.cell Mi i i)]))) := Same.mut s2 hq0
      have h3q : (upd H2 q (.lst (f.map V.int ++ [.int (Mat.cell Mi i i)]))) q = some (.lst ((f ++ [Mat.cell Mi i i]).map V.int)) := by rw [upd_same]; simp
      have h3D : (upd H2 q (.lst (f.map V.int ++ [.int (Mat.cell Mi i i)]))) D = some (.lst (rs.map V.ref)) := by rw [upd_ne hDq']; exact h2D
      have hP3 : Paired (fun r row => (upd H2 q (.lst (f.map V.int ++ [.int (Mat.cell Mi i i)]))) r = some (.lst (row.map V.int))) rs Mi := by
        have key : ∀ {xs : List Addr} {ys : List (List Int)}, Paired (fun r row => H2 r = some (.lst (row.map V.int))) xs ys → q ∉ xs → Paired (fun r row => (upd H2 q (.lst (f.map V.int ++ [.int (Mat.cell Mi i i)]))) r = some (.lst (row.map V.int))) xs ys := by
          intro xs ys h
          induction h with
          | nil => exact fun _ => .nil
          | cons r t ih => exact fun hd => .cons (by rw [upd_ne (fun z => hd (by simp [z]))]; exact r) (ih fun z => hd (List.mem_cons_of_mem _ z))
        exact key hP hqr
      generalize upd H2 q (.lst (f.map V.int ++ [.int (Mat.cell Mi i i)])) = H3 at *
      refine ssx_cons (ps_if (pt_cmpR op_le (pv 5) pe_int (nomark _)) SSX.ps SSX.ps) ?_
      walk_at "w"
      refine w_dcases (fun hle => ?_) fun hle => ?_
      · refine ssx_cons (ps_ret (pv 3)) ?_
        walk_at "w"
        rw [if_pos hle] at hmi
        exact k q H3 s3 (by rw [← hmi]; exact h3q)
      · refine ssx_nil ?_
        rw [if_neg hle] at hmi
        refine ssx_cons (ps_for PassesOwn.never rfl (pi_range2 rfl T.f_range (pa_cons (pe_op op_add (pv 4) pe_int) (pa_cons (pe_callB (q_len K) rfl T.f_len bb_len (pa_cons (pv 1) pa_nil)) pa_nil))) (pg_name (i := 6) sc_minors_of.nd rfl (Or.inl rfl)) SSX.ps) ?_
        walk_at "w"
        rw [List.length_map]
        refine w_rng2v (by omega) ?_
        rw [show ((rs.length : Int) - ((i : Int) + 1)).toNat = M.length - (i + 1) by omega]
        refine for_range (fun j σ H4 => ∃ o6 o7, σ = [some (.ref l0), some (.ref D), some (.int b), some (.ref q), some (.int i), some (.int (Mat.cell Mi i i)), o6, o7, none, none, none] ∧ Same H H4 ∧ H4 q = some (.lst ((f ++ [Mat.cell Mi i i]).map V.int)) ∧ MatF H4 D q (Mat.sweepTo b i (i + 1 + j) Mi)) ?_ ?_ ?_
        · exact ⟨_, _, rfl, s3, h3q, by rw [Nat.add_zero, Mat.sweepTo_start]; exact ⟨rs, h3D, hP3, hDr, hqr, hDq'⟩⟩
        · rintro j σ H4 hj ⟨o6', o7', rfl, s4, h4q, ⟨rs4, h4D, hP4, hDr4, hqr4, _⟩⟩
          have hlow : i + 1 + j < Mi.length := by omega
          have hi2 : i ≤ 2 := by omega
          have hbb := Mat.bnd_le hi2
          have hMl : Mi[i + 1 + j]? = some (Mi[i + 1 + j]'hlow) := List.getElem?_eq_getElem _
          have hll := hsqi _ (List.getElem_mem hlow)
          have hbl : ∀ x ∈ Mi[i + 1 + j]'hlow, -Mat.bnd i ≤ x ∧ x ≤ Mat.bnd i := hbdi _ (List.getElem_mem hlow)
          have hba : ∀ x ∈ rowi, -Mat.bnd i ≤ x ∧ x ≤ Mat.bnd i := hbdi _ (List.mem_of_getElem? hMi)
          have hgl : Mi.getD (i + 1 + j) [] = Mi[i + 1 + j]'hlow := by rw [List.getD_eq_getElem?_getD, hMl]; rfl
          generalize Mi[i + 1 + j]'hlow = rowl at *
          have g1 : (Mat.sweepTo b i (i + 1 + j) Mi)[i + 1 + j]? = some rowl := by rw [Mat.sweepTo_get hMl, if_pos (.inr (Nat.le_refl _))]
          have g2 : (Mat.sweepTo b i (i + 1 + j) Mi)[i]? = some rowi := by rw [Mat.sweepTo_get hMi, if_pos (.inl (Nat.le_refl _))]
          obtain ⟨rl, l1, l2, l3⟩ := paired_at hP4 g1
          obtain ⟨ra4, a1, a2, a3⟩ := paired_at hP4 g2
          have hrl4 := paired_len hP4
          rw [Mat.sweepTo_len] at hrl4
          have hcl : rowl[i]? = some (rowl.getD i 0) := by rw [List.getD_eq_getElem?_getD, List.getElem?_eq_getElem (show i < rowl.length by omega)]; rfl
          rw [show ((i : Int) + 1 + (j : Int)) = ((i + 1 + j : Nat) : Int) by omega]
          walk_at "w"
          refine ssx_cons (ps_set (i := 7) sc_minors_of.nd rfl (Or.inr rfl) (pe_ix (q_ixL K) (pe_ix (q_ixL K) (pv 1) (pv 6) (fun _ _ => rfl)) (pv 4) (fun _ _ => rfl))) ?_
          walk_at "w"
          refine w_ixL (sqL h4D) (atI_nat (by rw [List.getElem?_map, l1]; rfl)) ?_
          walk_at "w"
          refine w_ixL (sqL l2) (atI_nat (by rw [List.getElem?_map, hcl]; rfl)) ?_
          walk_at "w"
          refine ssx_cons (ps_asg (pe_lc (own := [("here", 9), ("there", 10)]) rfl sc_minors_of.nd (qi_zip K rfl T.f_zip (pa_cons (pe_ix (q_ixL K) (pv 1) (pv 6) (fun _ _ => rfl)) (pa_cons (pe_ix (q_ixL K) (pv 1) (pv 4) (fun _ _ => rfl)) pa_nil))) (blkOk_by (N := N_minors_of) (sc := defScope s_minors_of) (by decide +kernel)) (fun _ _ _ _ _ => (qg_tup (n := 2) K rfl (pgs_cons (pg_name (i := 9) sc_minors_of.nd rfl (Or.inl rfl)) (pgs_cons (pg_name (i := 10) sc_minors_of.nd rfl (Or.inl rfl)) pgs_nil)))) (fun _ _ _ _ _ => pts_nil) (fun _ _ _ _ _ => (pe_op op_fdivN (pe_op op_sub (pe_op op_mul (pv 5) (pv 9)) (pe_op op_mul (pv 7) (pv 10))) (pv 2)))) (pg_sub (pv 1) (pv 6) set_list)) ?_
          walk_at "w"
          refine w_ixL (sqL h4D) (atI_nat (by rw [List.getElem?_map, l1]; rfl)) ?_
          walk_at "w"
          refine w_ixL (sqL h4D) (atI_nat (by rw [List.getElem?_map, a1]; rfl)) ?_
          walk_at "w"
          refine w_zip (xs := rowl.map V.int) (ys := rowi.map V.int) (sqL l2) (sqL a2) ?_
          have hpv : -Mat.bnd i ≤ Mat.cell Mi i i ∧ Mat.cell Mi i i ≤ Mat.bnd i := hba _ (List.mem_of_getElem? hcel)
          have hfv : -Mat.bnd i ≤ rowl.getD i 0 ∧ rowl.getD i 0 ≤ Mat.bnd i := hbl _ (List.mem_of_getElem? hcl)
          refine rlcV (walk_zip (n := rowl.length) (by rw [List.length_map, List.length_map]; omega)) (fun n acc => acc = ((Mat.elim b (Mat.cell Mi i i) (rowl.getD i 0) rowl rowi).take n).map V.int) (by omega) (fun H' s' => ⟨s'.seq (sqL l2), s'.seq (sqL a2)⟩) rfl ?_ ?_
          · rintro n acc x H5 _ hn _ s5 rfl ⟨Tp, x1, y1, rfl, hTp, rfl, ex, ey⟩ KT KF hKT _
            obtain ⟨x, hx, rfl⟩ := map_get ex
            obtain ⟨y, hy, rfl⟩ := map_get ey
            refine g_pair ?_
            refine ⟨rfl, ?_⟩
            have b1 := hbl x (List.mem_of_getElem? hx)
            have b2 := hba y (List.mem_of_getElem? hy)
            walk_at "w"
            refine hKT _ _ (Same.alloc hTp) ?_
            have : (Mat.elim b (Mat.cell Mi i i) (rowl.getD i 0) rowl rowi)[n]? = some ((Mat.cell Mi i i * x - rowl.getD i 0 * y).fdiv b) := by
              unfold Mat.elim
              rw [List.getElem?_map, (List.getElem?_zip_eq_some (z := (x, y))).mpr ⟨hx, hy⟩]
              rfl
            rw [take_snoc this]; simp
          · rintro Z acc H5 hZ s5 h5 _ rfl
            have hel := Mat.elim_len (b := b) (p := Mat.cell Mi i i) (f := rowl.getD i 0) (show rowl.length = rowi.length by omega)
            rw [← hel, List.take_length] at h5
            have h5D := s5 _ _ h4D
            have hZD : Z ≠ D := fun z => by rw [z, h4D] at hZ; cases hZ
            have hZq : Z ≠ q := fun z => by rw [z, h4q] at hZ; cases hZ
            show gSub (tVar 1) (tVar 6) rSetL _ _ _ _
            refine w_var (v := .ref D) rfl ?_
            refine w_var (v := .int ((i + 1 + j : Nat) : Int)) rfl ?_
            refine ⟨D, _, _, i + 1 + j, rfl, rfl, h5D, ?_, ?_⟩
            · rw [List.length_map]; exact ixn (by omega)
            refine ssx_nil ⟨_, _, rfl, Same.mut (s4.trans s5) hD, by rw [upd_ne (Ne.symm hDq')]; exact s5 _ _ h4q, ?_⟩
            rw [← Nat.add_assoc, Mat.sweepTo_step hMl (by omega), hgi]
            refine ⟨rs4.set (i + 1 + j) Z, by rw [upd_same, List.map_set], ?_, ?_, ?_, hDq'⟩
            · refine paired_set _ ?_ (by rw [upd_ne hZD]; exact h5)
              have key : ∀ {xs : List Addr} {ys : List (List Int)}, Paired (fun r row => H4 r = some (.lst (row.map V.int))) xs ys → D ∉ xs → Paired (fun r row => (upd H5 D (.lst ((rs4.map V.ref).set (i + 1 + j) (.ref Z)))) r = some (.lst (row.map V.int))) xs ys := by
                intro xs ys h
                induction h with
                | nil => exact fun _ => .nil
                | cons r t ih => exact fun hd => .cons (by rw [upd_ne (fun z => hd (by simp [z]))]; exact s5 _ _ r) (ih fun z => hd (List.mem_cons_of_mem _ z))
              exact key hP4 hDr4
            · intro z
              rcases List.mem_or_eq_of_mem_set z with z | z
              · exact hDr4 z
              · exact hZD z.symm
            · intro z
              rcases List.mem_or_eq_of_mem_set z with z | z
              · exact hqr4 z
              · exact hZq z.symm
        · rintro σ H4 ⟨o6', o7', rfl, s4, h4q, hF⟩
          rw [show i + 1 + (M.length - (i + 1)) = Mi.length by omega, Mat.sweepTo_end] at hF
          refine ssx_cons (ps_set (i := 2) sc_minors_of.nd rfl (Or.inr rfl) (pv 5)) ?_
          walk_at "w"
          have hpv : -Mat.bnd i ≤ Mat.cell Mi i i ∧ Mat.cell Mi i i ≤ Mat.bnd i := hbdi _ (List.mem_of_getElem? hMi) _ (List.mem_of_getElem? hcel)
          have hc10 : ∀ a, 10 ≤ Mat.bnd a := by
            intro a
            induction a with
            | zero => decide
            | succ a ih =>
              show 10 ≤ 2 * (Mat.bnd a * Mat.bnd a)
              have := Int.mul_le_mul_of_nonneg_left ih (show 0 ≤ Mat.bnd a by omega)
              omega
          have hsq2 : Mat.bnd i ≤ 2 * (Mat.bnd i * Mat.bnd i) := by
            have := Int.mul_le_mul_of_nonneg_left (hc10 i) (show 0 ≤ Mat.bnd i by have := hc10 i; omega)
            omega
          have := hc10 i
          refine ssx_nil ⟨_, _, _, _, _, _, _, rfl, s4, h4q, hF, Mat.sweep_sq hil hsqi, by rw [Mat.sweep_len]; exact hli, Mat.sweep_bd (by omega) hb1 hbdi, by omega, by show _ ≤ 2 * (Mat.bnd i * Mat.bnd i); omega, by simp [hfl], ?_⟩
          rw [List.append_assoc]; exact hmi
    · rintro σ H2 ⟨b, Mi, f, o4, o5, o6, o7, rfl, s2, h2q, _, _, _, _, _, _, _, hmi⟩
      refine ssx_cons (ps_ret (pv 3)) ?_
      walk_at "w"
      rw [show M.length - rs4.length = 0 by omega, show Mat.mins Mi b rs4.length 0 = [] from rfl, List.append_nil] at hmi
      exact k q H2 s2 (by rw [← hmi]; exact h2q)
end
end K1
namespace K1
open PySem PySem.Spec L2
open PyProof.Rows hiding St
local macro_rules | `(tactic| walk_at "hp") => `(tactic| first | assumption | exact upd_same | (refine' Same.to ?wse ?wsh; (case wse => assumption); (case wsh => walk_at "hp")) | ((rw [upd_ne (by first | assumption | (apply Ne.symm; assumption))]); walk_at "hp"))
local macro_rules | `(tactic| walk_at "sq") => `(tactic| first | assumption | exact sqL (by walk_at "hp") | exact sqT (by walk_at "hp") | (refine' Same.seqTo ?wse ?wsh; (case wse => assumption); (case wsh => walk_at "sq")) | (refine' Same.sqtTo ?wse ?wsh; (case wse => assumption); (case wsh => walk_at "sq")))
local macro_rules | `(tactic| walk_at "w1") => `(tactic| first
  | with_reducible refine w_asg ?_
  | with_reducible refine w_c ?_
  | with_reducible refine w_gname ?_
  | with_reducible refine w_if ?_
  | with_reducible refine w_ifs ?_
  | with_reducible refine w_test ?_
  | with_reducible refine w_tB ?_
  | with_reducible refine w_bl ?_
  | with_reducible refine w_op ?_
  | with_reducible refine w_nil ?_
  | with_reducible refine w_cons ?_
  | with_reducible refine w_cb ?_
  | with_reducible refine w_I0 ?_
  | with_reducible refine w_lst ?_
  | with_reducible refine w_tup ?_
  | with_reducible refine w_sl ?_
  | with_reducible refine w_noPart ?_
  | with_reducible refine w_part ?_
  | with_reducible refine w_int ?_
  | with_reducible refine w_par ?_
  | with_reducible refine w_two ?_
  | with_reducible refine w_par3 ?_
  | with_reducible refine w_three ?_
  | with_reducible refine w_ret ?_
  | with_reducible refine w_drop ?_
  | with_reducible refine w_chain ?_
  | with_reducible refine w_and ?_
  | with_reducible refine w_or ?_
  | with_reducible refine w_not ?_
  | with_reducible refine w_notV ?_
  | with_reducible refine w_andV ?_
  | with_reducible refine w_orV ?_
  | with_reducible refine w_int1 ?_
  | with_reducible refine w_true ?_
  | with_reducible refine w_false ?_
  | with_reducible refine w_for ?_
  | with_reducible refine w_rng1 ?_
  | with_reducible refine w_rng2 ?_
  | with_reducible refine w_iList ?_
  | with_reducible refine w_iTup ?_
  | with_reducible refine w_dget ?_
  | with_reducible refine w_din ?_
  | with_reducible refine w_dnotin ?_
  | with_reducible refine w_dput ?_
  | with_reducible refine w_dget2 ?_
  | with_reducible refine w_fld ?_
  | with_reducible refine w_dnew ?_
  | with_reducible refine w_lc ?_
  | with_reducible refine w_dc ?_
  | with_reducible refine w_iStr ?_
  | with_reducible refine w_str ?_
  | with_reducible refine w_iEnum ?_
  | with_reducible refine w_iZip ?_
  | with_reducible refine w_yes ?_
  | with_reducible refine w_gtup ?_
  | with_reducible refine w_gcons ?_
  | with_reducible refine w_rcons ?_
  | with_reducible refine w_gnil ?_
  | with_reducible refine w_leS ?_
  | with_reducible refine w_isN ?_
  | with_reducible refine w_notN ?_
  | with_reducible refine w_call ?_
  | with_reducible refine w_meth ?_
  | with_reducible refine w_bm ?_
  | with_reducible refine w_bm0 ?_
  | with_reducible refine isi_int ?_
  | with_reducible refine isi_bl_int ?_
  | with_reducible refine isi_int_bl ?_
  | with_reducible refine isi_bl ?_
  | with_reducible refine isi_str ?_
  | with_reducible refine isi_non_dict ?_
  | with_reducible refine isi_int_dict ?_
  | with_reducible refine w_ntrue ?_
  | with_reducible refine w_nfalse ?_
  | with_reducible refine w_wt ?_
  | with_reducible refine w_starD ?_
  | with_reducible refine w_starT ?_
  | with_reducible refine w_listVals ?_
  | with_reducible refine w_iEnumT ?_
  | with_reducible refine w_iEnumS ?_
  | with_reducible refine w_enumS ?_
  | with_reducible refine w_frz ?_
  | with_reducible refine w_iItems ?_
  | with_reducible refine w_iKeys ?_
  | with_reducible refine w_iVals ?_
  | with_reducible refine w_strS ?_
  | with_reducible refine w_daug ?_
  | with_reducible refine w_rAdd ?_
  | with_reducible refine w_sfld ?_
  | ((with_reducible refine' w_var ?wsd ?_); (case wsd => first | rfl | assumption))
  | ((with_reducible refine' w_eq ?wsd ?_); (case wsd => rfl))
  | ((with_reducible refine' w_ne ?wsd ?_); (case wsd => rfl))
  | ((with_reducible refine' w_lenL ?wsd ?_); (case wsd => walk_at "sq"))
  | ((with_reducible refine' w_lenT ?wsd ?_); (case wsd => walk_at "sq"))
  | ((with_reducible refine' w_itL ?wsd ?_); (case wsd => walk_at "sq"))
  | ((with_reducible refine' w_itT ?wsd ?_); (case wsd => walk_at "sq"))
  | ((with_reducible refine' w_rng1v ?wsd ?_); (case wsd => omega))
  | ((with_reducible refine' w_rng2v ?wsd ?_); (case wsd => omega))
  | ((with_reducible refine' w_I ?wsd ?_); (case wsd => walk_at "side"))
  | ((with_reducible refine' w_dtrue ?wsd ?_); (case wsd => first | assumption | omega | rfl | decide))
  | ((with_reducible refine' w_dfalse ?wsd ?_); (case wsd => first | assumption | omega | decide))
  | ((with_reducible refine' w_ndtrue ?wsd ?_); (case wsd => first | assumption | omega | rfl | decide))
  | ((with_reducible refine' w_ndfalse ?wsd ?_); (case wsd => first | assumption | omega | decide))
  | ((with_reducible refine' w_stD ?wsd ?_); (case wsd => walk_at "hp"))
  | ((with_reducible refine' w_stT ?wsd ?_); (case wsd => walk_at "sq"))
  | ((with_reducible refine' w_stL ?wsd ?_); (case wsd => walk_at "sq"))
  | ((with_reducible refine' w_isD ?wsd ?_); (case wsd => walk_at "hp"))
  | ((with_reducible refine' isi_tup ?wsd ?_); (case wsd => walk_at "sq"))
  | ((with_reducible refine' isi_dict ?wsd ?_); (case wsd => walk_at "hp"))
  | ((with_reducible refine' w_lenDv ?wsd ?_); (case wsd => walk_at "hp"))
  | ((with_reducible refine' w_enum ?wsd ?_); (case wsd => walk_at "sq"))
  | ((with_reducible refine' w_enumT ?wsd ?_); (case wsd => walk_at "sq"))
  | ((with_reducible refine' w_tyL ?wsd ?_); (case wsd => walk_at "sq")))
local macro_rules | `(tactic| walk_at "side") => `(tactic| first | omega | decide | (constructor <;> omega) | (constructor <;> decide) | (simp only [List.length_map, List.length_append, List.length_cons, List.length_nil, CDivN, CMul, CPow]; first | omega | decide | (constructor <;> omega)))
local macro_rules | `(tactic| walk_at "w") => `(tactic| repeat (walk_at "w1"))
def mtx (N : NetD) : List (List Int) := N.names.map fun a => N.names.map fun b => (if a = b then ((N.tn a).length : Int) else 0) - (NetD.cr b (N.tn a) : Int)
theorem mtx_len {N : NetD} : (mtx N).length = N.names.length := by simp [mtx]
theorem mtx_sq {N : NetD} : Mat.Sq (mtx N) := by
  intro r hr
  obtain ⟨a, _, rfl⟩ := List.mem_map.mp hr
  rw [mtx_len, List.length_map]
theorem cr_le {x : Str} : ∀ (l : List (List Str)), (∀ d ∈ l, d.length ≤ 2) → NetD.cr x l ≤ 2 * l.length
  | [], _ => by simp [NetD.cr]
  | d :: l, h => by
    have h1 := h d (List.mem_cons_self ..)
    have h2 := cr_le (x := x) l fun d hd => h d (List.mem_cons_of_mem _ hd)
    have h3 : d.count x ≤ d.length := List.count_le_length
    simp only [NetD.cr, List.length_cons]; omega
theorem mtx_bd {N : NetD} (h : N.Ok) : Mat.Bd 10 (mtx N) := by
  intro r hr x hx
  obtain ⟨a, ha, rfl⟩ := List.mem_map.mp hr
  obtain ⟨b, _, rfl⟩ := List.mem_map.mp hx
  have h1 := h.tl a ha
  have h2 := cr_le (x := b) (N.tn a) fun d hd => (h.dr a ha d (List.mem_append.mpr (.inr hd))).1
  show -10 ≤ (if a = b then ((N.tn a).length : Int) else 0) - (NetD.cr b (N.tn a) : Int) ∧ (if a = b then ((N.tn a).length : Int) else 0) - (NetD.cr b (N.tn a) : Int) ≤ 10
  split <;> omega
def NetD.Ends (N : NetD) : Prop := Mat.good (mtx N)
theorem rows_upd {H : Hp} {l : Addr} {o : HO} {xs : List Addr} {ys : List (List Int)} (h : Paired (fun r row => H r = some (.lst (row.map V.int))) xs ys) (hl : l ∉ xs) : Paired (fun r row => (upd H l o) r = some (.lst (row.map V.int))) xs ys := by
  induction h with
  | nil => exact .nil
  | cons r t ih => exact .cons (by rw [upd_ne (fun z => hl (by simp [z]))]; exact r) (ih fun z => hl (List.mem_cons_of_mem _ z))
def spLattice (K : PySem.W.Frag) : Sp := fun vs H Q _ => ∃ (p : Addr) (N : NetD), vs = [.ref p] ∧ NetAt K H p N ∧ N.Ok ∧ ∀ l H', Same H H' → MatAt K H' l (mtx N) → Q (.ref l) H'
def spEnds (K : PySem.W.Frag) : Sp := fun vs H Q _ => ∃ (p : Addr) (N : NetD), vs = [.ref p] ∧ NetAt K H p N ∧ N.Ok ∧ (N.Ends → ∀ H', Same H H' → Q (.bl true) H') ∧ (¬ N.Ends → ∀ H', Same H H' → Q (.bl false) H')
theorem w_un {r : V → Hp → VK → Prop} {ta : TE} {σ : L2.St} {H : Hp} {Q : VK} (h : ta σ H fun x H1 => r x H1 Q) : tUn r ta σ H Q := h
theorem w_rU {g : Int → V} {i : Int} {H : Hp} {Q : VK} (h : Q (g i) H) : rU g (.int i) H Q := ⟨i, rfl, h⟩
abbrev N_lattice : List Str := ["net", "rows", "name", "told", "other"]
theorem sc_lattice : FnScope N_lattice ["net"] (defScope s_lattice) := ⟨rfl, rfl, rfl, by decide +kernel, rfl, by decide +kernel, by decide +kernel⟩
abbrev N_ends : List Str := ["net"]
theorem sc_ends : FnScope N_ends ["net"] (defScope s_ends) := ⟨rfl, rfl, rfl, by decide +kernel, rfl, by decide +kernel, by decide +kernel⟩
section
variable {P : Program} {w : World} {K : PySem.W.Frag} {mg : Str → Option Value} {base : Heap}
theorem ok_lattice (T : TX K mg) : Fok P w K mg base CX0 2 (He.ga K "lattice") ["net"] [] (spLattice K) := by
  obtain ⟨fd, F⟩ := T.fn_lattice
  refine ⟨⟨fd, [], ?_, F.bindsN fun _ _ _ _ _ _ us hl => match us, hl with | [_], _ => rfl, .nil⟩, F.kp⟩
  refine F.ok sc_lattice (fun vs H Q E h => ?_) (fun cdv A outer s H vs Q E hr h => ?_)
  · obtain ⟨_, _, rfl, _⟩ := h
    rfl
  obtain ⟨p, N, rfl, hA, hok, k⟩ := h
  obtain ⟨dk, di, to, ln, dx, hN⟩ := id hA
  have hu := hu_of hr
  have O_Net_turned := @ok_Net_turned P w K mg base T
  have O_Net_period := @ok_Net_period P w K mg base T
  have hln := hok.len
  refine ssx_nox ?_
  refine ssx_cons (ps_set (i := 1) sc_lattice.nd rfl (Or.inl rfl) (pe_lst pa_nil)) ?_
  walk_at "w"
  refine w_newL (by simp) fun l H1 hl s1 h1 => ?_
  walk_at "w"
  refine ssx_cons (ps_for PassesOwn.never rfl (qi_list K (q_fld K (pv 0) rfl)) (pg_name (i := 2) sc_lattice.nd rfl (Or.inr rfl)) SSX.ps) ?_
  walk_at "w"
  refine w_nnames T (hN.same s1) ?_
  refine w_itL (sqL (s1 _ _ hN.nm)) ?_
  refine for_txtL (xs := N.names) (fun i σ H2 => ∃ (rs : List Addr) (o2 o3 : Option V), σ = [some (.ref p), some (.ref l), o2, o3, none] ∧ Same H H2 ∧ H2 l = some (.lst (rs.map V.ref)) ∧ Paired (fun r row => H2 r = some (.lst (row.map V.int))) rs ((mtx N).take i) ∧ l ∉ rs ∧ rs.length = i) ?_ ?_ ?_ ?_
  · rintro i σ H2 ⟨_, _, _, _, s2, _⟩
    exact s2.seq (sqL hN.nm)
  · exact ⟨[], _, _, rfl, s1, h1, by simp; exact .nil, by simp, rfl⟩
  · rintro i y σ H2 hy ⟨rs, o2, o3, rfl, s2, h2l, hP, hlr, hrl⟩
    have hyn := List.mem_of_getElem? hy
    obtain ⟨hi, _⟩ := List.getElem?_eq_some_iff.mp hy
    have hA2 := hA.same s2
    obtain ⟨dk2, di2, to2, ln2, dx2, hN2⟩ := id hA2
    walk_at "w"
    refine ssx_cons (ps_set (i := 3) sc_lattice.nd rfl (Or.inr rfl) (pe_methF (pv 0) T.c_Net T.m_Net_turned O_Net_turned (hr.mono (by decide)) pass0 (pa_cons (pv 2) pa_nil))) ?_
    walk_at "w"
    refine w_nmeth hN2 ?_
    walk_at "w"
    refine ⟨p, N, y, rfl, hA2, hok, hyn, fun d ks f H3 s3 hd h3 hz hf => ?_⟩
    walk_at "w"
    have hA3 := hA2.same s3
    obtain ⟨dk3, di3, to3, ln3, dx3, hN3⟩ := id hA3
    refine ssx_cons (ps_expr (q_bm K PySem.F.plainAttrs_list PySem.F.slot_list_append PySem.F.type_list_append mt_append (pv 1) (pa_cons (pe_lc (own := [("other", 4)]) rfl sc_lattice.nd (qi_list K (q_fld K (pv 0) rfl)) (blkOk_by (N := N_lattice) (sc := defScope s_lattice) (by decide +kernel)) (fun _ _ _ _ _ => (pg_name (i := 4) sc_lattice.nd rfl (Or.inl rfl))) (fun _ _ _ _ _ => pts_nil) (fun _ _ _ _ _ => (pe_op op_sub (pe_ifExp (pt_cmpR op_eq (pv 2) (pv 4) (nomark _)) (pe_methF (pv 0) T.c_Net T.m_Net_period O_Net_period (hr.mono (by decide)) pass0 (pa_cons (pv 2) pa_nil)) pe_int) (pe_dget2 hu (pv 3) (pv 4) pe_int ⟨rfl, rfl, rfl, rfl⟩)))) pa_nil))) ?_
    walk_at "w"
    refine w_nnames T hN3 ?_
    refine w_itL (sqL hN3.nm) ?_
    have hrow : (mtx N)[i]? = some (N.names.map fun b => (if y = b then ((N.tn y).length : Int) else 0) - (NetD.cr b (N.tn y) : Int)) := by
      unfold mtx; rw [List.getElem?_map, hy]; rfl
    refine rlcV (walk_list (xs := N.names.map V.str)) (fun j acc => acc = (N.names.take j).map fun b => V.int ((if y = b then ((N.tn y).length : Int) else 0) - (NetD.cr b (N.tn y) : Int))) (by rw [List.length_map]; omega) (fun H' s' => s'.seq (sqL hN3.nm)) rfl ?_ ?_
    · rintro j acc x _ H4 hj _ s4 rfl ⟨rfl, hx⟩ KT KF hKT _
      obtain ⟨z, hz', rfl⟩ := map_get hx
      walk_at "w"
      refine ⟨rfl, ?_⟩
      walk_at "w"
      have fin : ∀ H5 (v : Int), Same H4 H5 → v = (if y = z then ((N.tn y).length : Int) else 0) - (NetD.cr z (N.tn y) : Int) → KT (.int v) H5 := fun H5 v s5 e => hKT _ _ s5 (by rw [take_snoc hz', e]; simp)
      have hA4 := hA3.same s4
      obtain ⟨dk4, di4, to4, ln4, dx4, hN4⟩ := id hA4
      refine w_dcases (fun he => ?_) fun he => ?_
      · walk_at "w"
        refine w_nmeth hN4 ?_
        walk_at "w"
        refine ⟨p, N, y, rfl, hA4, hyn, ?_⟩
        walk_at "w"
        refine w_getOI (s4 _ _ h3) hz ?_
        walk_at "w"
        have he' : y = z := by simpa using he
        exact fin _ _ (Same.refl _) (by rw [hf, if_pos he'])
      · walk_at "w"
        refine w_getOI (s4 _ _ h3) hz ?_
        walk_at "w"
        have he' : ¬ y = z := by simpa using he
        exact fin _ _ (Same.refl _) (by rw [hf, if_neg he'])
    · rintro Z acc H4 hZ s4 h4 _ rfl
      walk_at "w"
      have h4l := s4 _ _ (s3 _ _ h2l)
      refine w_app h4l (by rw [List.length_map]; omega) ?_
      have hZl : Z ≠ l := fun z => by rw [z, s3 _ _ h2l] at hZ; cases hZ
      refine ssx_nil ⟨rs ++ [Z], _, _, rfl, Same.mut ((s2.trans s3).trans s4) hl, by rw [upd_same]; simp, ?_, ?_, by simp [hrl]⟩
      · rw [take_snoc hrow]
        refine paired_snoc (rows_upd (paired_imp hP fun _ _ e => s4 _ _ (s3 _ _ e)) hlr) ?_
        rw [upd_ne hZl, h4, List.length_map, List.take_length]
        simp
      · intro z
        rcases List.mem_append.mp z with z | z
        · exact hlr z
        · exact hZl (List.mem_singleton.mp z).symm
  · rintro σ H2 ⟨rs, o2, o3, rfl, s2, h2l, hP, hlr, hrl⟩
    refine ssx_cons (ps_ret (pv 1)) ?_
    walk_at "w"
    rw [List.take_of_length_le (by rw [mtx_len]; exact Nat.le_refl _)] at hP
    exact k l H2 s2 ⟨rs, h2l, paired_imp hP fun _ _ e => sqL e⟩
theorem ok_ends (T : TX K mg) : Fok P w K mg base CX0 3 (He.ga K "ends") ["net"] [] (spEnds K) := by
  obtain ⟨fd, F⟩ := T.fn_ends
  refine ⟨⟨fd, [], ?_, F.bindsN fun _ _ _ _ _ _ us hl => match us, hl with | [_], _ => rfl, .nil⟩, F.kp⟩
  refine F.ok sc_ends (fun vs H Q E h => ?_) (fun cdv A outer s H vs Q E hr h => ?_)
  · obtain ⟨_, _, rfl, _⟩ := h
    rfl
  obtain ⟨p, N, rfl, hA, hok, k1, k2⟩ := h
  have hu := hu_of hr
  have O_check_net := @ok_check_net P w K mg base T
  have O_lattice := @ok_lattice P w K mg base T
  have O_minors_of := @ok_minors_of P w K mg base T
  have hln := hok.len
  refine ssx_nox ?_
  refine ssx_cons (ps_expr (pe_callF O_check_net (hr.mono (by decide)) rfl T.g_check_net pass0 (pa_cons (pv 0) pa_nil))) ?_
  walk_at "w"
  refine ⟨p, N, rfl, hA, ?_⟩
  refine ssx_cons (ps_ret (pe_cmpR op_gt (pe_ix (q_ixL K) (pe_callF O_minors_of (hr.mono (by decide)) rfl T.g_minors_of pass0 (pa_cons (pe_callF O_lattice (hr.mono (by decide)) rfl T.g_lattice pass0 (pa_cons (pv 0) pa_nil)) pa_nil)) (pe_un un_neg pe_int) (fun _ _ => rfl)) pe_int (nomark _))) ?_
  walk_at "w"
  refine ⟨p, N, rfl, hA, hok, fun l H1 s1 hM => ?_⟩
  walk_at "w"
  refine ⟨l, mtx N, rfl, hM, mtx_sq, by rw [mtx_len]; omega, by rw [mtx_len]; omega, mtx_bd hok, fun q H2 s2 h2 => ?_⟩
  walk_at "w"
  refine w_un ?_
  walk_at "w"
  refine w_rU ?_
  have hne : Mat.minors (mtx N) ≠ [] := by
    unfold Mat.minors
    rw [mtx_len]
    obtain ⟨m, hm⟩ : ∃ m, N.names.length = m + 1 := ⟨N.names.length - 1, by omega⟩
    rw [hm]
    simp only [Mat.mins]
    split <;> simp
  have hlast : Mat.minors (mtx N) = (Mat.minors (mtx N)).dropLast ++ [Mat.last (Mat.minors (mtx N))] := by
    unfold Mat.last
    rw [List.getLast?_eq_some_getLast hne]
    exact (List.dropLast_concat_getLast hne).symm
  refine w_ixL (v := .int (Mat.last (Mat.minors (mtx N)))) (sqL h2) (by
    rw [hlast, List.map_append]
    have := atI_last ((Mat.minors (mtx N)).dropLast.map V.int) (V.int (Mat.last (Mat.minors (mtx N))))
    rw [← hlast] at *
    exact this) ?_
  walk_at "w"
  have hiff := Mat.ends_iff (M := mtx N) mtx_sq (by rw [mtx_len]; omega) (by rw [mtx_len]; omega)
  by_cases he : N.Ends
  · rw [decide_eq_true (hiff.mp he)]
    exact k1 he H2 (s1.trans s2)
  · rw [decide_eq_false fun z => he (hiff.mpr z)]
    exact k2 he H2 (s1.trans s2)
end
end K1
namespace K1
open PySem PySem.Spec L2
open PyProof.Rows hiding St
local macro_rules | `(tactic| walk_at "hp") => `(tactic| first | assumption | exact upd_same | (refine' Same.to ?wse ?wsh; (case wse => assumption); (case wsh => walk_at "hp")) | ((rw [upd_ne (by first | assumption | (apply Ne.symm; assumption))]); walk_at "hp"))
local macro_rules | `(tactic| walk_at "sq") => `(tactic| first | assumption | exact sqL (by walk_at "hp") | exact sqT (by walk_at "hp") | (refine' Same.seqTo ?wse ?wsh; (case wse => assumption); (case wsh => walk_at "sq")) | (refine' Same.sqtTo ?wse ?wsh; (case wse => assumption); (case wsh => walk_at "sq")))
local macro_rules | `(tactic| walk_at "w1") => `(tactic| first
  | with_reducible refine w_asg ?_
  | with_reducible refine w_c ?_
  | with_reducible refine w_gname ?_
  | with_reducible refine w_if ?_
  | with_reducible refine w_ifs ?_
  | with_reducible refine w_test ?_
  | with_reducible refine w_tB ?_
  | with_reducible refine w_bl ?_
  | with_reducible refine w_op ?_
  | with_reducible refine w_nil ?_
  | with_reducible refine w_cons ?_
  | with_reducible refine w_cb ?_
  | with_reducible refine w_I0 ?_
  | with_reducible refine w_lst ?_
  | with_reducible refine w_tup ?_
  | with_reducible refine w_sl ?_
  | with_reducible refine w_noPart ?_
  | with_reducible refine w_part ?_
  | with_reducible refine w_int ?_
  | with_reducible refine w_par ?_
  | with_reducible refine w_two ?_
  | with_reducible refine w_par3 ?_
  | with_reducible refine w_three ?_
  | with_reducible refine w_ret ?_
  | with_reducible refine w_drop ?_
  | with_reducible refine w_chain ?_
  | with_reducible refine w_and ?_
  | with_reducible refine w_or ?_
  | with_reducible refine w_not ?_
  | with_reducible refine w_notV ?_
  | with_reducible refine w_andV ?_
  | with_reducible refine w_orV ?_
  | with_reducible refine w_int1 ?_
  | with_reducible refine w_true ?_
  | with_reducible refine w_false ?_
  | with_reducible refine w_for ?_
  | with_reducible refine w_rng1 ?_
  | with_reducible refine w_rng2 ?_
  | with_reducible refine w_iList ?_
  | with_reducible refine w_iTup ?_
  | with_reducible refine w_dget ?_
  | with_reducible refine w_din ?_
  | with_reducible refine w_dnotin ?_
  | with_reducible refine w_dput ?_
  | with_reducible refine w_dget2 ?_
  | with_reducible refine w_fld ?_
  | with_reducible refine w_dnew ?_
  | with_reducible refine w_lc ?_
  | with_reducible refine w_dc ?_
  | with_reducible refine w_iStr ?_
  | with_reducible refine w_str ?_
  | with_reducible refine w_iEnum ?_
  | with_reducible refine w_iZip ?_
  | with_reducible refine w_yes ?_
  | with_reducible refine w_gtup ?_
  | with_reducible refine w_gcons ?_
  | with_reducible refine w_rcons ?_
  | with_reducible refine w_gnil ?_
  | with_reducible refine w_leS ?_
  | with_reducible refine w_isN ?_
  | with_reducible refine w_notN ?_
  | with_reducible refine w_call ?_
  | with_reducible refine w_meth ?_
  | with_reducible refine w_bm ?_
  | with_reducible refine w_bm0 ?_
  | with_reducible refine isi_int ?_
  | with_reducible refine isi_bl_int ?_
  | with_reducible refine isi_int_bl ?_
  | with_reducible refine isi_bl ?_
  | with_reducible refine isi_str ?_
  | with_reducible refine isi_non_dict ?_
  | with_reducible refine isi_int_dict ?_
  | with_reducible refine w_ntrue ?_
  | with_reducible refine w_nfalse ?_
  | with_reducible refine w_wt ?_
  | with_reducible refine w_starD ?_
  | with_reducible refine w_starT ?_
  | with_reducible refine w_listVals ?_
  | with_reducible refine w_iEnumT ?_
  | with_reducible refine w_iEnumS ?_
  | with_reducible refine w_enumS ?_
  | with_reducible refine w_frz ?_
  | with_reducible refine w_iItems ?_
  | with_reducible refine w_iKeys ?_
  | with_reducible refine w_iVals ?_
  | with_reducible refine w_strS ?_
  | with_reducible refine w_daug ?_
  | with_reducible refine w_rAdd ?_
  | with_reducible refine w_sfld ?_
  | ((with_reducible refine' w_var ?wsd ?_); (case wsd => first | rfl | assumption))
  | ((with_reducible refine' w_eq ?wsd ?_); (case wsd => rfl))
  | ((with_reducible refine' w_ne ?wsd ?_); (case wsd => rfl))
  | ((with_reducible refine' w_lenL ?wsd ?_); (case wsd => walk_at "sq"))
  | ((with_reducible refine' w_lenT ?wsd ?_); (case wsd => walk_at "sq"))
  | ((with_reducible refine' w_itL ?wsd ?_); (case wsd => walk_at "sq"))
  | ((with_reducible refine' w_itT ?wsd ?_); (case wsd => walk_at "sq"))
  | ((with_reducible refine' w_rng1v ?wsd ?_); (case wsd => omega))
  | ((with_reducible refine' w_rng2v ?wsd ?_); (case wsd => omega))
  | ((with_reducible refine' w_I ?wsd ?_); (case wsd => walk_at "side"))
  | ((with_reducible refine' w_dtrue ?wsd ?_); (case wsd => first | assumption | omega | rfl | decide))
  | ((with_reducible refine' w_dfalse ?wsd ?_); (case wsd => first | assumption | omega | decide))
  | ((with_reducible refine' w_ndtrue ?wsd ?_); (case wsd => first | assumption | omega | rfl | decide))
  | ((with_reducible refine' w_ndfalse ?wsd ?_); (case wsd => first | assumption | omega | decide))
  | ((with_reducible refine' w_stD ?wsd ?_); (case wsd => walk_at "hp"))
  | ((with_reducible refine' w_stT ?wsd ?_); (case wsd => walk_at "sq"))
  | ((with_reducible refine' w_stL ?wsd ?_); (case wsd => walk_at "sq"))
  | ((with_reducible refine' w_isD ?wsd ?_); (case wsd => walk_at "hp"))
  | ((with_reducible refine' isi_tup ?wsd ?_); (case wsd => walk_at "sq"))
  | ((with_reducible refine' isi_dict ?wsd ?_); (case wsd => walk_at "hp"))
  | ((with_reducible refine' w_lenDv ?wsd ?_); (case wsd => walk_at "hp"))
  | ((with_reducible refine' w_enum ?wsd ?_); (case wsd => walk_at "sq"))
  | ((with_reducible refine' w_enumT ?wsd ?_); (case wsd => walk_at "sq"))
  | ((with_reducible refine' w_tyL ?wsd ?_); (case wsd => walk_at "sq")))
local macro_rules | `(tactic| walk_at "side") => `(tactic| first | omega | decide | (constructor <;> omega) | (constructor <;> decide) | (simp only [List.length_map, List.length_append, List.length_cons, List.length_nil, CDivN, CMul, CPow]; first | omega | decide | (constructor <;> omega)))
local macro_rules | `(tactic| walk_at "w") => `(tactic| repeat (walk_at "w1"))
section
variable {K : PySem.W.Frag} {Hn H H' : Hp} {b p st wk od td dx : Addr} {N : NetD} {w0 p0 u : Str → Nat}
theorem BoardO.grow (e : Same H H') (B : BoardO K Hn H b N p st wk od td dx w0 p0 u) : BoardO K Hn H' b N p st wk od td dx w0 p0 u :=
  ⟨B.sm.trans e, B.net, B.ob, B.nst, B.nwk, B.nod, B.ntd, B.ne, e _ _ B.hst, e _ _ B.htd, e _ _ B.hod, by obtain ⟨ws, wf, z, r⟩ := B.hwk; exact ⟨ws, wf, e _ _ z, r⟩, B.pl⟩
def Apart (st wk od td c : Addr) : Prop := c ≠ st ∧ c ≠ wk ∧ c ≠ od ∧ c ≠ td
theorem BoardO.apart {c : Addr} {o : HO} (B : BoardO K Hn H b N p st wk od td dx w0 p0 u) (h : H c = some o) (hd : ∀ kvs, o ≠ .dK kvs) : Apart st wk od td c := by
  refine ⟨fun z => ?_, fun z => ?_, fun z => ?_, fun z => ?_⟩
  · rw [z, B.hst] at h; cases h; exact hd _ rfl
  · obtain ⟨ws, wf, e, _⟩ := B.hwk
    rw [z, e] at h; cases h; exact hd _ rfl
  · rw [z, B.hod] at h; cases h; exact hd _ rfl
  · rw [z, B.htd] at h; cases h; exact hd _ rfl
theorem BoardO.other {l : Addr} {o : HO} (B : BoardO K Hn H b N p st wk od td dx w0 p0 u) (hl : Hn l = none) (ha : Apart st wk od td l) : BoardO K Hn (upd H l o) b N p st wk od td dx w0 p0 u := by
  obtain ⟨a1, a2, a3, a4⟩ := ha
  refine ⟨Same.mut B.sm hl, B.net, B.ob, B.nst, B.nwk, B.nod, B.ntd, B.ne, by rw [upd_ne a1.symm]; exact B.hst, by rw [upd_ne a4.symm]; exact B.htd, by rw [upd_ne a3.symm]; exact B.hod, ?_, B.pl⟩
  obtain ⟨ws, wf, e, r⟩ := B.hwk
  exact ⟨ws, wf, by rw [upd_ne a2.symm]; exact e, r⟩
open Classical in
noncomputable def reb (H : Hp) (st wk od td : Addr) : Hp := fun c => if Apart st wk od td c then H c else none
theorem reb_of {c : Addr} (h : Apart st wk od td c) : reb H st wk od td c = H c := if_pos h
theorem reb_same : Same (reb H st wk od td) H := fun c o e => by
  by_cases h : Apart st wk od td c
  · rw [reb_of h] at e; exact e
  · rw [show reb H st wk od td c = none from if_neg h] at e; cases e
theorem BoardO.same_reb (B : BoardO K Hn H b N p st wk od td dx w0 p0 u) : Same Hn (reb H st wk od td) := fun c o e => by
  have : Apart st wk od td c := ⟨(fun z => by rw [z, B.nst] at e; cases e), (fun z => by rw [z, B.nwk] at e; cases e), (fun z => by rw [z, B.nod] at e; cases e), (fun z => by rw [z, B.ntd] at e; cases e)⟩
  rw [reb_of this]; exact B.sm _ _ e
theorem BoardO.rebase (B : BoardO K Hn H b N p st wk od td dx w0 p0 u) : BoardO K (reb H st wk od td) H b N p st wk od td dx w0 p0 u :=
  ⟨reb_same, B.net.same B.same_reb, B.same_reb _ _ B.ob, if_neg fun z => z.1 rfl, if_neg fun z => z.2.1 rfl, if_neg fun z => z.2.2.1 rfl, if_neg fun z => z.2.2.2 rfl, B.ne, B.hst, B.htd, B.hod, B.hwk, B.pl⟩
theorem take_use {Q : VK} {E : XK} {k : Str} {m : Nat} (B : BoardO K Hn H b N p st wk od td dx w0 p0 u) (hok : N.Ok) (hk : k ∈ N.names)
    (q : ∀ H', BoardO K Hn H' b N p st wk od td dx w0 p0 (up u k (u k + m)) → (∀ c o, Apart st wk od td c → H c = some o → H' c = some o) → Q .non H') : spTake K [.ref b, .str k, .int m] H Q E := by
  refine ⟨b, p, st, wk, od, td, dx, N, reb H st wk od td, w0, p0, u, k, m, rfl, B.rebase, hok, hk, fun H' B' => ?_⟩
  refine q H' ⟨B.same_reb.trans B'.sm, B.net, B.ob, B.nst, B.nwk, B.nod, B.ntd, B.ne, B'.hst, B'.htd, B'.hod, B'.hwk, B'.pl⟩ fun c o ha e => B'.sm _ _ (by rw [reb_of ha]; exact e)
def FwOk (N : NetD) (w0 p0 u : Str → Nat) (v : V) : Prop := (v = .non ∧ ∀ k ∈ N.names, N.wt w0 p0 u k ≤ 0) ∨ ∃ k l1 l2, v = .str k ∧ N.names = l1 ++ k :: l2 ∧ (∀ y ∈ l1, N.wt w0 p0 u y ≤ 0) ∧ 0 < N.wt w0 p0 u k
theorem fw_use {Q : VK} {E : XK} (B : BoardO K Hn H b N p st wk od td dx w0 p0 u) (hok : N.Ok) (q : ∀ v, FwOk N w0 p0 u v → Q v H) : spFirstWaiting K [.ref b] H Q E :=
  ⟨b, p, st, wk, od, td, dx, N, Hn, w0, p0, u, rfl, B, hok, fun k l1 l2 h1 h2 h3 => q _ (.inr ⟨k, l1, l2, rfl, h1, h2, h3⟩), fun h => q _ (.inl ⟨rfl, h⟩)⟩
theorem sqT_frame {c : Addr} {xs : List V} (B : BoardO K Hn H b N p st wk od td dx w0 p0 u) (fr : ∀ c o, Apart st wk od td c → H c = some o → H' c = some o) (h : SqT K H c xs) : SqT K H' c xs := by
  rcases h with (h | ⟨o, h⟩) | h
  · exact .inl (.inl (fr _ _ (B.apart h (by intro _ z; cases z)) h))
  · exact .inl (.inr ⟨o, fr _ _ (B.apart h (by intro _ z; cases z)) h⟩)
  · exact .inr h
end
abbrev zu : Str → Nat := fun _ => 0
def tot (N : NetD) (u : Str → Nat) : Nat := NetD.sm u N.names
theorem tot_up {N : NetD} (hok : N.Ok) {u : Str → Nat} {k : Str} {m : Nat} (hk : k ∈ N.names) : tot N (up u k (u k + m)) = tot N u + m := NetD.sm_up hok.nodup hk (fun _ _ e => NetD.up_ne e) NetD.up_same
theorem tot_aft {N : NetD} (hok : N.Ok) : ∀ (ord : List (Str × Nat)) (u : Str → Nat), (∀ e ∈ ord, e.1 ∈ N.names ∧ 1 ≤ e.2) → tot N u + ord.length ≤ tot N (aft u ord)
  | [], u, _ => Nat.le_refl _
  | e :: r, u, h => by
    have h1 := h e (List.mem_cons_self ..)
    have h2 := tot_aft hok r (up u e.1 (u e.1 + e.2)) fun x hx => h x (List.mem_cons_of_mem _ hx)
    rw [tot_up hok h1.1] at h2
    simp only [aft, List.length_cons]
    omega
theorem tot_le {N : NetD} {u v : Str → Nat} (h : ∀ k ∈ N.names, u k ≤ v k) : tot N u ≤ tot N v := NetD.sm_mono h
structure Full (N : NetD) (w0 p0 us : Str → Nat) : Prop where
  rs : N.Reach w0 p0 us
  rest : ∀ k ∈ N.names, N.wt w0 p0 us k ≤ 0
  few : tot N us ≤ 5000
structure Settles (N : NetD) (w0 p0 us : Str → Nat) (ord : List (Str × Nat)) : Prop where
  names : ∀ e ∈ ord, e.1 ∈ N.names ∧ 1 ≤ e.2
  legal : legal N w0 p0 zu ord
  aft : ∀ k ∈ N.names, aft zu ord k = us k
  first : ∀ e r, ord = e :: r → e.2 = w0 e.1
def spSettle (K : PySem.W.Frag) : Sp := fun vs H Q E => ∃ (p : Addr) (N : NetD) (x y : V), vs = [.ref p, x, y] ∧ NetAt K H p N ∧ N.Ok ∧ (
  (¬ N.Ends ∧ ∀ H', Same H H' → E (.ref (He.ga K "NeverEnds")) none H') ∨ (N.Ends ∧ (
    (BadBl H x N ∧ ∀ H', Same H H' → E (.ref (He.ga K "BadBalls")) none H') ∨
    ∃ a ks bl, x = .ref a ∧ BlAt H a N ks bl ∧ ((BadSt H y N ∧ ∀ H', Same H H' → E (.ref (He.ga K "BadStanding")) none H') ∨
      ∃ p0 us, StIs H y N p0 ∧ Full N (bsum N bl ks) p0 us ∧ ∀ s ord H', Same H H' → SetO K H' s N p0 us ord → Settles N (bsum N bl ks) p0 us ord → Q (.ref s) H'))))
abbrev N_settle : List Str := ["net", "balls", "standing", "board", "order", "name", "knot", "many"]
theorem sc_settle : FnScope N_settle ["net", "balls", "standing"] (defScope s_settle) := ⟨rfl, rfl, rfl, by decide +kernel, rfl, by decide +kernel, by decide +kernel⟩
section
variable {P : Program} {w : World} {K : PySem.W.Frag} {mg : Str → Option Value} {base : Heap}
theorem fn_settle_ok (T : TX K mg) {fd : FuncData} (F : FunD K "settle" "settle" (defArgs s_settle) (defBody s_settle) (defScope s_settle) [.non] [] (He.ga K "settle") fd) : FnOk P w K mg base (L2.CX P w) 4 (He.ga K "settle") fd ["net", "balls", "standing"] (spSettle K) := by
  refine F.ok sc_settle (fun vs H Q E h => ?_) (fun cdv A outer s H vs Q E hr h => ?_)
  · obtain ⟨_, _, _, _, rfl, _⟩ := h
    rfl
  obtain ⟨p, N, x, y, rfl, hA, hok, k⟩ := h
  have hu := hu_of hr
  have O_check_net := @ok_check_net P w K mg base T
  have O_ends := @ok_ends P w K mg base T
  have O_begun := @ok_begun P w K mg base T
  have O_Board_first_waiting := @ok_Board_first_waiting P w K mg base T
  have O_Board_take := @ok_Board_take P w K mg base T
  have O_Settled_init := @ok_Settled_init P w K mg base T
  have hp : Passes (L2.CX P w) (cxOf (L2.CX P w) P w K mg base N_settle "settle" (defScope s_settle) (He.ga K "settle") cdv A outer s H E) E := passes_call (takes_of rfl rfl rfl rfl) fun _ _ _ _ h => h
  show SSX _ _ _ _ _
  refine ssx_cons (ps_expr (pe_callF O_check_net (hr.mono (by decide)) rfl T.g_check_net pass0 (pa_cons (pv 0) pa_nil))) ?_
  walk_at "w"
  refine ⟨p, N, rfl, hA, ?_⟩
  refine ssx_cons (ps_if (pt_not (pt_val (pe_callF O_ends (hr.mono (by decide)) rfl T.g_ends pass0 (pa_cons (pv 0) pa_nil)))) SSX.ps SSX.ps) ?_
  walk_at "w"
  rcases k with ⟨hne, k⟩ | ⟨hen, k⟩
  · refine ⟨p, N, rfl, hA, hok, fun z => absurd z hne, fun _ H1 s1 => ?_⟩
    walk_at "w"
    refine ssx_cons (ps_raise rfl (takes_of rfl rfl rfl rfl) (pmk_own PySem.F.excBase_ValueError T.e_NeverEnds.1 T.g_NeverEnds T.e_NeverEnds.2.1 (raises_own T.e_NeverEnds.2.2.1 T.e_NeverEnds.2.2.2) rfl)) ?_
    exact k H1 s1
  refine ⟨p, N, rfl, hA, hok, fun _ H1 s1 => ?_, fun z => absurd hen z⟩
  walk_at "w"
  refine ssx_nil ?_
  refine ssx_cons (ps_set (i := 3) sc_settle.nd rfl (Or.inl rfl) (pe_callF O_begun (hr.mono (by decide)) rfl T.g_begun hp (pa_cons (pv 0) (pa_cons (pv 1) (pa_cons (pv 2) pa_nil))))) ?_
  walk_at "w"
  refine ⟨p, N, x, y, rfl, hA.same s1, hok, ?_⟩
  rcases k with ⟨hb, k⟩ | ⟨a, ks, bl, rfl, hb, k⟩
  · exact .inl ⟨hb.same s1, fun H' s' => k H' (s1.trans s')⟩
  refine .inr ⟨a, ks, bl, rfl, hb.same s1, ?_⟩
  rcases k with ⟨hb, k⟩ | ⟨p0, us, hst, hfull, k⟩
  · exact .inl ⟨hb.same s1, fun H' s' => k H' (s1.trans s')⟩
  refine .inr ⟨p0, hst.same s1, fun b st wk od td dx Hn H2 s2 hb0 B => ?_⟩
  walk_at "w"
  have sH2 := s1.trans (s2.trans B.sm)
  have hbal : ∀ {ord : List (Str × Nat)}, (∀ e ∈ ord, e.1 ∈ N.names ∧ 1 ≤ e.2) → legal N (bsum N bl ks) p0 zu ord → N.Reach (bsum N bl ks) p0 (aft zu ord) := fun h1 h2 => legal_reach (fun e he => (h1 e he).1) .zero h2
  have htot : ∀ {ord : List (Str × Nat)}, (∀ e ∈ ord, e.1 ∈ N.names ∧ 1 ≤ e.2) → legal N (bsum N bl ks) p0 zu ord → tot N (aft zu ord) ≤ 5000 ∧ ord.length ≤ 5000 := fun {ord} h1 h2 => by
    have a1 := tot_le (N.reach_le hfull.rest (fun _ _ => Nat.le_refl _) (hbal h1 h2))
    have a2 := tot_aft hok ord zu h1
    have a3 := hfull.few
    constructor <;> omega
  refine ssx_cons (ps_par (i := 4) (j := 5) rfl sc_settle.nd rfl rfl (by decide) rfl rfl (pa_cons (pe_lst pa_nil) (pa_cons (pe_meth0F (pv 3) T.c_Board T.m_Board_first_waiting O_Board_first_waiting (hr.mono (by decide)) pass0) pa_nil)) rfl) ?_
  walk_at "w"
  refine w_newL (by simp) fun ol H3 hol s3 h3 => ?_
  have B3 := B.grow s3
  walk_at "w"
  refine w_bmeth (B3.sm _ _ B3.ob) ?_
  walk_at "w"
  refine fw_use B3 hok fun nm hnm => ?_
  walk_at "w"
  have hlHn : Hn ol = none := B.sm.free hol
  refine ssx_cons (ps_while (passes_of rfl) (pt_cmpR k_notN (pv 5) pe_non (nomark _)) SSX.ps) ?_
  refine w_while (fun m σ H4 => ∃ (ord : List (Str × Nat)) (nm : V) (o6 o7 : Option V) (qs : List Addr), σ = [some (.ref p), some (.ref a), some y, some (.ref b), some (.ref ol), some nm, o6, o7] ∧ BoardO K Hn H4 b N p st wk od td dx (bsum N bl ks) p0 (aft zu ord) ∧ H4 ol = some (.lst (qs.map V.ref)) ∧ Paired (PairAt K H4) qs ord ∧
    legal N (bsum N bl ks) p0 zu ord ∧ (∀ e ∈ ord, e.1 ∈ N.names ∧ 1 ≤ e.2) ∧ (∀ e r, ord = e :: r → e.2 = bsum N bl ks e.1) ∧ FwOk N (bsum N bl ks) p0 (aft zu ord) nm ∧ m = 5000 - tot N (aft zu ord)) (5000 - tot N (aft zu [])) ⟨[], nm, _, _, [], rfl, B3, h3, .nil, trivial, by simp, by simp, hnm, rfl⟩ ?_
  rintro m σ H4 ⟨ord, nm, o6, o7, qs, rfl, B4, h4, hP4, hleg, hnam, hfst, hfw, rfl⟩
  walk_at "w"
  rcases hfw with ⟨rfl, hrest⟩ | ⟨k0, l1, l2, rfl, hsp, hl1, hpos⟩
  · refine w_ndtrue rfl ?_
    have heq : ∀ k ∈ N.names, aft zu ord k = us k := N.reach_eq hfull.rest hrest hfull.rs (hbal hnam hleg)
    have hb4 := B4.sm _ _ B4.ob
    refine ssx_cons (ps_ret (pe_makeF T.mk_Settled O_Settled_init (hr.mono (by decide)) rfl T.g_Settled pass0 (pa_cons (q_fld K (pv 3) rfl) (pa_cons (q_fld K (pv 3) rfl) (pa_cons (q_fld K (pv 3) rfl) (pa_cons (pv 4) pa_nil)))))) ?_
    refine w_ret ?_
    show tCons _ _ _ _ _
    walk_at "w"
    refine w_btaken T hb4 ?_
    walk_at "w"
    refine w_bout T hb4 ?_
    walk_at "w"
    refine w_bstanding T hb4 ?_
    walk_at "w"
    intro s0 dx0 hs0 hdx0 hne0
    refine ⟨s0, td, od, st, ol, dx0, N, H4, p0, us, qs, ord, rfl, upd_same, hs0, Same.mut (Same.alloc hdx0) hs0, ?_, ?_, ?_, .inl (sqL h4), hP4, fun H5 s5 hS => ⟨rfl, ?_⟩⟩
    · rw [B4.htd]; exact congrArg some (DI_congr fun k hk => by rw [heq k hk])
    · rw [B4.hod]; exact congrArg some (DI_congr fun k _ => by rw [N.got_congr heq])
    · rw [B4.hst]; exact congrArg some (DI_congr fun k hk => by rw [heq k hk])
    · exact k s0 ord H5 ((s1.trans s2).trans (B4.sm.trans s5)) hS ⟨hnam, hleg, heq, hfst⟩
  · refine w_ndfalse (by intro z; cases z) ?_
    refine w_wt ?_
    have hk0 : k0 ∈ N.names := by rw [hsp]; simp
    obtain ⟨dk, di, to, ln, dxn, hN⟩ := B4.net
    have hN4 := hN.same B4.sm
    refine ssx_cons (ps_for (passes_of rfl) rfl (qi_list K (q_fld K (pv 0) rfl)) (pg_name (i := 6) sc_settle.nd rfl (Or.inl rfl)) SSX.ps) ?_
    walk_at "w"
    refine w_nnames T hN4 ?_
    refine w_itL (sqL hN4.nm) ?_
    refine for_txtL (xs := N.names) (fun i σ H5 => ∃ (ord2 : List (Str × Nat)) (o6 o7 : Option V) (qs : List Addr), σ = [some (.ref p), some (.ref a), some y, some (.ref b), some (.ref ol), some (.str k0), o6, o7] ∧ BoardO K Hn H5 b N p st wk od td dx (bsum N bl ks) p0 (aft zu ord2) ∧ H5 ol = some (.lst (qs.map V.ref)) ∧ Paired (PairAt K H5) qs ord2 ∧
      legal N (bsum N bl ks) p0 zu ord2 ∧ (∀ e ∈ ord2, e.1 ∈ N.names ∧ 1 ≤ e.2) ∧ (∀ e r, ord2 = e :: r → e.2 = bsum N bl ks e.1) ∧ tot N (aft zu ord) ≤ tot N (aft zu ord2) ∧ (k0 ∈ N.names.take i → tot N (aft zu ord) < tot N (aft zu ord2)) ∧ (k0 ∉ N.names.take i → 0 < N.wt (bsum N bl ks) p0 (aft zu ord2) k0)) ?_ ?_ ?_ ?_
    · rintro i σ H5 ⟨_, _, _, _, _, B5, _⟩
      exact B5.sm.seq (sqL hN.nm)
    · exact ⟨ord, _, _, qs, rfl, B4, h4, hP4, hleg, hnam, hfst, Nat.le_refl _, by simp, fun _ => hpos⟩
    · rintro i z σ H5 hz ⟨ord2, o6, o7, qs, rfl, B5, h5, hP5, hleg2, hnam2, hfst2, hle2, hin2, hnin2⟩
      have hzn := List.mem_of_getElem? hz
      have hb5 := B5.sm _ _ B5.ob
      obtain ⟨ws, wf, hwk, hzr, hnd, hwn, hwf⟩ := B5.hwk
      have hpz := N.reach_pos hok.nodup (hbal hnam2 hleg2) z hzn
      obtain ⟨mz, hmz⟩ : ∃ mz : Nat, N.wt (bsum N bl ks) p0 (aft zu ord2) z = (mz : Int) := ⟨(N.wt (bsum N bl ks) p0 (aft zu ord2) z).toNat, by omega⟩
      have htk := take_snoc hz
      walk_at "w"
      refine ssx_cons (ps_set (i := 7) sc_settle.nd rfl (Or.inl rfl) (pe_dget2 hu (q_fld K (pv 3) rfl) (pv 6) pe_int ⟨rfl, rfl, rfl, rfl⟩)) ?_
      walk_at "w"
      refine w_bwaiting T hb5 ?_
      refine w_isD hwk ?_
      walk_at "w"
      refine w_getOI hwk hzr ?_
      rw [hwf z hzn, hmz]
      walk_at "w"
      refine ssx_cons (ps_if (pt_cmpR op_gt (pv 7) pe_int (nomark _)) SSX.ps SSX.ps) ?_
      walk_at "w"
      refine w_dcases (fun hlt => ?_) fun hlt => ?_
      · refine ssx_cons (ps_expr (q_bm K PySem.F.plainAttrs_list PySem.F.slot_list_append PySem.F.type_list_append mt_append (pv 4) (pa_cons (pe_tup (pa_cons (pv 6) (pa_cons (pv 7) pa_nil))) pa_nil))) ?_
        walk_at "w"
        refine w_newT (by simp) fun q H6 hq s6 h6 => ?_
        walk_at "w"
        have h6l := s6 _ _ h5
        have hlen := (htot hnam2 hleg2).2
        have hpl := paired_len hP5
        refine w_app h6l (by rw [List.length_map]; omega) ?_
        walk_at "w"
        have hap : Apart st wk od td ol := B5.apart h5 (by intro _ z; cases z)
        have B7 := (B5.grow s6).other (o := .lst (qs.map V.ref ++ [.ref q])) hlHn hap
        have h7l : (upd H6 ol (.lst (qs.map V.ref ++ [.ref q]))) ol = some (.lst ((qs ++ [q]).map V.ref)) := by rw [upd_same]; simp
        have hP7 : Paired (PairAt K (upd H6 ol (.lst (qs.map V.ref ++ [.ref q])))) (qs ++ [q]) (ord2 ++ [(z, mz)]) :=
          paired_snoc (paired_imp hP5 fun _ _ e => sqT_updL (Same.sqt s6 e) h6l) (sqT_updL (sqT h6) h6l)
        generalize upd H6 ol (.lst (qs.map V.ref ++ [.ref q])) = H7 at *
        have hb7 := B7.sm _ _ B7.ob
        refine ssx_cons (ps_expr (pe_methF (pv 3) T.c_Board T.m_Board_take O_Board_take (hr.mono (by decide)) pass0 (pa_cons (pv 6) (pa_cons (pv 7) pa_nil)))) ?_
        walk_at "w"
        refine w_bmeth hb7 ?_
        walk_at "w"
        refine take_use B7 hok hzn fun H8 B8 fr => ?_
        have hnew : aft zu (ord2 ++ [(z, mz)]) = up (aft zu ord2) z (aft zu ord2 z + mz) := aft_snoc _ _ _
        have htu := tot_up hok (u := aft zu ord2) (k := z) (m := mz) hzn
        refine ssx_nil (ssx_nil ⟨ord2 ++ [(z, mz)], _, _, qs ++ [q], rfl, by rw [hnew]; exact B8, fr _ _ hap h7l, paired_imp hP7 fun _ _ e => sqT_frame B7 fr e, legal_snoc.mpr ⟨hleg2, by show (mz : Int) ≤ N.wt (bsum N bl ks) p0 (aft zu ord2) z; omega⟩, ?_, ?_, ?_, ?_, ?_⟩)
        · intro e he
          rcases List.mem_append.mp he with he | he
          · exact hnam2 e he
          · rw [List.mem_singleton.mp he]; exact ⟨hzn, by show 1 ≤ mz; omega⟩
        · intro e r he
          cases ord2 with
          | nil =>
            simp at he
            obtain ⟨rfl, _⟩ := he
            rw [show aft zu [] = fun _ => 0 from rfl, wt_zero] at hmz
            show mz = bsum N bl ks z
            omega
          | cons e' r' =>
            simp at he
            obtain ⟨rfl, _⟩ := he
            exact hfst2 _ _ rfl
        · rw [hnew, htu]; omega
        · intro _; rw [hnew, htu]; omega
        · intro hk
          rw [htk] at hk
          have hk1 : k0 ∉ N.names.take i := fun z => hk (by simp [z])
          have hk2 : k0 ≠ z := fun z => hk (by simp [z])
          have := hnin2 hk1
          rw [hnew, N.wt_step hok.nodup hzn, if_neg hk2]
          omega
      · refine ssx_nil (ssx_nil ⟨ord2, _, _, qs, rfl, B5, h5, hP5, hleg2, hnam2, hfst2, hle2, fun hk => ?_, fun hk => ?_⟩)
        · rw [htk] at hk
          rcases List.mem_append.mp hk with hk | hk
          · exact hin2 hk
          · obtain rfl := List.mem_singleton.mp hk
            by_cases hk' : k0 ∈ N.names.take i
            · exact hin2 hk'
            · have := hnin2 hk'
              omega
        · exact hnin2 fun z => hk (by rw [htk]; simp [z])
    · rintro σ H5 ⟨ord2, o6, o7, qs, rfl, B5, h5, hP5, hleg2, hnam2, hfst2, hle2, hin2, hnin2⟩
      have hb5 := B5.sm _ _ B5.ob
      refine ssx_cons (ps_set (i := 5) sc_settle.nd rfl (Or.inl rfl) (pe_meth0F (pv 3) T.c_Board T.m_Board_first_waiting O_Board_first_waiting (hr.mono (by decide)) pass0)) ?_
      walk_at "w"
      refine w_bmeth hb5 ?_
      walk_at "w"
      refine fw_use B5 hok fun nm2 hnm2 => ?_
      walk_at "w"
      have h1 := hin2 (by rw [List.take_length]; exact hk0)
      have h2 := (htot hnam2 hleg2).1
      exact ssx_nil ⟨_, by omega, ord2, nm2, _, _, qs, rfl, B5, h5, hP5, hleg2, hnam2, hfst2, hnm2, rfl⟩
theorem ok_settle (T : TX K mg) : Fok P w K mg base (L2.CX P w) 4 (He.ga K "settle") ["net", "balls", "standing"] [] (spSettle K) := by
  obtain ⟨fd, F⟩ := T.fn_settle
  obtain ⟨ds, h1, h2⟩ := F.binds1 (ps := ["net", "balls", "standing"]) 3 1 (by simp) rfl fun _ _ _ _ _ _ _ us its h1 h2 => match us, its, h1, h2 with | [_, _, _], [_], _, _ => ⟨_, rfl, by kernel_rfl⟩
  exact ⟨⟨fd, ds, fn_settle_ok T F, h2, h1⟩, F.kp⟩
theorem ok_settle1 (T : TX K mg) : Fok P w K mg base (L2.CX P w) 4 (He.ga K "settle") ["net", "balls", "standing"] [.non] (spSettle K) := by
  obtain ⟨fd, F⟩ := T.fn_settle
  obtain ⟨ds, h1, h2⟩ := F.binds1 (ps := ["net", "balls", "standing"]) 2 0 (by simp) rfl fun _ _ _ _ _ _ _ us its h1 h2 => match us, its, h1, h2 with | [_, _], [_], _, _ => ⟨_, rfl, by kernel_rfl⟩
  exact ⟨⟨fd, ds, fn_settle_ok T F, h2, h1⟩, F.kp⟩
end
end K1
namespace K1
open PySem PySem.Spec L2
open PyProof.Rows hiding St
theorem takes_none {X : Cx} : Takes X fun _ _ _ _ => False := by
  intro u s' h
  obtain ⟨a, B, sI, pins, σ', H', cls, d, _, _, _, _, _, _, _, _, z⟩ := h
  exact z.elim
theorem passN {X : Cx} : Passes (L2.CX X.prog X.w) X fun _ _ _ => False := fun _ _ _ _ _ _ _ h => by
  obtain ⟨_, _, _, _, _, _, _, _, _, _, _, _, z⟩ := h
  exact z.elim
def tSuite (X : Cx) (sts : List Stmt) : Addr → Value → Option Addr → TS := fun a cls d D σ H => ∀ oe pn, Zc cls d oe → (∃ vs, oe.data = .fields vs) → SSX (X.suite a ((a, oe) :: pn)) sts D σ H
def tTry (X : Cx) (body : List Stmt) (W : Ends → WX) : TS := fun D σ H => ∀ pn xe, Takes (X.tr pn xe) (W D) → PassesOwn (model X.prog X.w) X.A X.env xe → SSX (X.tr pn xe) body D σ H
section
variable {X : Cx} {x n : Str} {c : Value} {i : Nat} {body suite : List Stmt} {b₀ : Stmt} {np pos pos' : Pos} {Wout : WX}
theorem ps_tryX (hs : X.stack = X.env :: X.outer) (hf : X.env.frame = some X.env.locals) (hc : Names X x c) (tk : Takes X Wout) :
    PS X (.Try body [.ExceptHandler (some (.Name x np)) none (b₀ :: suite) pos'] [] [] pos) (tTry X body fun D => wOnly X.K c (tSuite X (b₀ :: suite)) Wout D) := by
  refine ps_try_only (tb := fun W D σ H => ∀ pn xe, Takes (X.tr pn xe) W → PassesOwn (model X.prog X.w) X.A X.env xe → SSX (X.tr pn xe) body D σ H) hs hf hc tk (fun W pn xe t1 t2 => ⟨fun pins s σ H D I h => SSX.ps.run pins s σ H D I (h pn xe t1 t2)⟩) fun a oe cls d pn h1 h2 => ⟨fun pins s σ H D I h => SSX.ps.run pins s σ H D I (h oe pn h1 h2)⟩
theorem ps_tryAs (hs : X.stack = X.env :: X.outer) (hf : X.env.frame = some X.env.locals) (hN : X.N.Nodup) (hi : X.N[i]? = some n) (hln : X.env.kindOf n = some .local) (hc : Names X x c) (tk : Takes X Wout) :
    PS X (.Try body [.ExceptHandler (some (.Name x np)) (some n) (b₀ :: suite) pos'] [] [] pos) (tTry X body fun D => wAs X.K c i (tSuite X (b₀ :: suite)) Wout D) := by
  refine ps_try_as (tb := fun W D σ H => ∀ pn xe, Takes (X.tr pn xe) W → PassesOwn (model X.prog X.w) X.A X.env xe → SSX (X.tr pn xe) body D σ H) hs hf hN hi hln hc tk (fun W pn xe t1 t2 => ⟨fun pins s σ H D I h => SSX.ps.run pins s σ H D I (h pn xe t1 t2)⟩) fun a oe cls d pn h1 h2 => ⟨fun pins s σ H D I h => SSX.ps.run pins s σ H D I (h oe pn h1 h2)⟩
end
end K1
namespace K1
open PySem PySem.Spec L2
open PyProof.Rows hiding St
theorem sw_trueD {kx vx : Expr} {gs : List Comprehension} {scope : Scope} {pos py : Pos} {y : Str} {l : Nat} {env : Env} (hk : env.scope.kind = .function) (hy : env.scope.names.lookup y = some .local) (hl : (py.line == pos.line) = true)
    (ha : (scope.names.any fun (n, k) => n == y && (k == .local || k == .cell)) = false) : swapsWith (.DictComp kx vx gs scope pos) (some (.Name y py)) l env = pure true := by
  have ky : env.kindOf y = some .local := hy
  have hb : env.blockKind = .function := by unfold Env.blockKind; rw [hk]; rfl
  unfold swapsWith
  simp only [hb, ky, ha, Expr.pos, hl]
  rfl
theorem ps_setDc {X : Cx} {i : Nat} {y : Str} {py : Pos} {kx vx tg iter : Expr} {ifs : List Expr} {scope : Scope} {own : List (Str × Nat)} {pos spos : Pos} {wi : TI} {g : TG} {tt : TT} {tk tv : TE} (hc : X.calm = true) (hN : X.N.Nodup) (hy : X.N[i]? = some y) (hyl : X.env.scope.names.lookup y = some .local)
    (hsw : swapsWith (.DictComp kx vx [⟨tg, iter, ifs, 0⟩] scope pos) (some (.Name y py)) spos.line X.env = pure true) (hi : PI X tg iter wi) (ok : BlkOk X.N X.env.scope scope own)
    (hg : ∀ (s : Shared) (H : Hp) (C : Addr) (cl : List (Str × Addr)) (fp : List Addr), PG (X.blk s H scope (compEnvC scope cl C X.env) fp) tg g) (ht : ∀ (s : Shared) (H : Hp) (C : Addr) (cl : List (Str × Addr)) (fp : List Addr), PTs (X.blk s H scope (compEnvC scope cl C X.env) fp) ifs tt)
    (hk : ∀ (s : Shared) (H : Hp) (C : Addr) (cl : List (Str × Addr)) (fp : List Addr), PE (X.blk s H scope (compEnvC scope cl C X.env) fp) kx tk)
    (he : ∀ (s : Shared) (H : Hp) (C : Addr) (cl : List (Str × Addr)) (fp : List Addr), PE (X.blk s H scope (compEnvC scope cl C X.env) fp) vx tv) (hs : ∀ x, foldedSetIterable iter X.env x = pure x := by intro _; rfl) :
    PS X (.Assign [.Name y py] (.DictComp kx vx [⟨tg, iter, ifs, 0⟩] scope pos) spos) (tAsg (tDc wi g tt tk tv (own.map (·.2))) (gName i)) := by
  refine ⟨fun pins s σ H D I h => ?_⟩
  rw [exec_Assign_Name_used _ _ _ _ hsw]
  refine wpAny_bind (wpAny_standAt (wpAny_bind ?_))
  show wpAny _ X.A (do let _ ← comprehension (.DictComp kx vx [⟨tg, iter, ifs, 0⟩] scope pos) scope X.env (firstIterPos [⟨tg, iter, ifs, 0⟩] pos) newDict false (eval iter X.env) (some (assign (.Name y py) X.env))) _ _ s
  have h : tDc wi g tt tk tv (own.map (·.2)) σ H (fun x H1 => gName i x σ H1 D.nx) := h
  refine wpAny_bind (thn (dc_core (Qf := fun _ s' => SP X pins D .next s') hc hN I hi ok hg ht hk he hs h fun L C s' m H' I' q hn f => ?_) fun _ s' hq => wpAny_pure (wpAny_pure hq))
  show wpAny _ _ (assign (.Name y py) X.env (.ref L)) _ _ _
  refine wpAny_assign_Name (store_ok2 (v := V.ref L) I' hN hy (.inl hyl) rfl (fun s2 I2 ⟨a, sb, ha⟩ => ?_) (.inr hyl))
  obtain ⟨f0, f1, f2, f3, f4, f5⟩ := f
  have haC : C ≠ a := by
    rcases ha with z | z
    · rw [z]; exact f1
    · exact fun e => f4 y a z e.symm
  refine ⟨m, hn.sameBut sb haC, fun h3 sb3 => ?_⟩
  exact ⟨_, H', I2.turned (t' := s2.toks) (fun b o hb e => (sb3.2 b hb).trans e) f0 f1 f3 f4 f5, q⟩
end K1
namespace K1
open PySem PySem.Spec L2
open PyProof.Rows hiding St
local macro_rules | `(tactic| walk_at "hp") => `(tactic| first | assumption | exact upd_same | (refine' Same.to ?wse ?wsh; (case wse => assumption); (case wsh => walk_at "hp")) | ((rw [upd_ne (by first | assumption | (apply Ne.symm; assumption))]); walk_at "hp"))
local macro_rules | `(tactic| walk_at "sq") => `(tactic| first | assumption | exact sqL (by walk_at "hp") | exact sqT (by walk_at "hp") | (refine' Same.seqTo ?wse ?wsh; (case wse => assumption); (case wsh => walk_at "sq")) | (refine' Same.sqtTo ?wse ?wsh; (case wse => assumption); (case wsh => walk_at "sq")))
local macro_rules | `(tactic| walk_at "w1") => `(tactic| first
  | with_reducible refine w_asg ?_
  | with_reducible refine w_c ?_
  | with_reducible refine w_gname ?_
  | with_reducible refine w_if ?_
  | with_reducible refine w_ifs ?_
  | with_reducible refine w_test ?_
  | with_reducible refine w_tB ?_
  | with_reducible refine w_bl ?_
  | with_reducible refine w_op ?_
  | with_reducible refine w_nil ?_
  | with_reducible refine w_cons ?_
  | with_reducible refine w_cb ?_
  | with_reducible refine w_I0 ?_
  | with_reducible refine w_lst ?_
  | with_reducible refine w_tup ?_
  | with_reducible refine w_sl ?_
  | with_reducible refine w_noPart ?_
  | with_reducible refine w_part ?_
  | with_reducible refine w_int ?_
  | with_reducible refine w_par ?_
  | with_reducible refine w_two ?_
  | with_reducible refine w_par3 ?_
  | with_reducible refine w_three ?_
  | with_reducible refine w_ret ?_
  | with_reducible refine w_drop ?_
  | with_reducible refine w_chain ?_
  | with_reducible refine w_and ?_
  | with_reducible refine w_or ?_
  | with_reducible refine w_not ?_
  | with_reducible refine w_notV ?_
  | with_reducible refine w_andV ?_
  | with_reducible refine w_orV ?_
  | with_reducible refine w_int1 ?_
  | with_reducible refine w_true ?_
  | with_reducible refine w_false ?_
  | with_reducible refine w_for ?_
  | with_reducible refine w_rng1 ?_
  | with_reducible refine w_rng2 ?_
  | with_reducible refine w_iList ?_
  | with_reducible refine w_iTup ?_
  | with_reducible refine w_dget ?_
  | with_reducible refine w_din ?_
  | with_reducible refine w_dnotin ?_
  | with_reducible refine w_dput ?_
  | with_reducible refine w_dget2 ?_
  | with_reducible refine w_fld ?_
  | with_reducible refine w_dnew ?_
  | with_reducible refine w_lc ?_
  | with_reducible refine w_dc ?_
  | with_reducible refine w_iStr ?_
  | with_reducible refine w_str ?_
  | with_reducible refine w_iEnum ?_
  | with_reducible refine w_iZip ?_
  | with_reducible refine w_yes ?_
  | with_reducible refine w_gtup ?_
  | with_reducible refine w_gcons ?_
  | with_reducible refine w_rcons ?_
  | with_reducible refine w_gnil ?_
  | with_reducible refine w_leS ?_
  | with_reducible refine w_isN ?_
  | with_reducible refine w_notN ?_
  | with_reducible refine w_call ?_
  | with_reducible refine w_meth ?_
  | with_reducible refine w_bm ?_
  | with_reducible refine w_bm0 ?_
  | with_reducible refine isi_int ?_
  | with_reducible refine isi_bl_int ?_
  | with_reducible refine isi_int_bl ?_
  | with_reducible refine isi_bl ?_
  | with_reducible refine isi_str ?_
  | with_reducible refine isi_non_dict ?_
  | with_reducible refine isi_int_dict ?_
  | with_reducible refine w_ntrue ?_
  | with_reducible refine w_nfalse ?_
  | with_reducible refine w_wt ?_
  | with_reducible refine w_starD ?_
  | with_reducible refine w_starT ?_
  | with_reducible refine w_listVals ?_
  | with_reducible refine w_iEnumT ?_
  | with_reducible refine w_iEnumS ?_
  | with_reducible refine w_enumS ?_
  | with_reducible refine w_frz ?_
  | with_reducible refine w_iItems ?_
  | with_reducible refine w_iKeys ?_
  | with_reducible refine w_iVals ?_
  | with_reducible refine w_strS ?_
  | with_reducible refine w_daug ?_
  | with_reducible refine w_rAdd ?_
  | with_reducible refine w_sfld ?_
  | ((with_reducible refine' w_var ?wsd ?_); (case wsd => first | rfl | assumption))
  | ((with_reducible refine' w_eq ?wsd ?_); (case wsd => rfl))
  | ((with_reducible refine' w_ne ?wsd ?_); (case wsd => rfl))
  | ((with_reducible refine' w_lenL ?wsd ?_); (case wsd => walk_at "sq"))
  | ((with_reducible refine' w_lenT ?wsd ?_); (case wsd => walk_at "sq"))
  | ((with_reducible refine' w_itL ?wsd ?_); (case wsd => walk_at "sq"))
  | ((with_reducible refine' w_itT ?wsd ?_); (case wsd => walk_at "sq"))
  | ((with_reducible refine' w_rng1v ?wsd ?_); (case wsd => omega))
  | ((with_reducible refine' w_rng2v ?wsd ?_); (case wsd => omega))
  | ((with_reducible refine' w_I ?wsd ?_); (case wsd => walk_at "side"))
  | ((with_reducible refine' w_dtrue ?wsd ?_); (case wsd => first | assumption | omega | rfl | decide))
  | ((with_reducible refine' w_dfalse ?wsd ?_); (case wsd => first | assumption | omega | decide))
  | ((with_reducible refine' w_ndtrue ?wsd ?_); (case wsd => first | assumption | omega | rfl | decide))
  | ((with_reducible refine' w_ndfalse ?wsd ?_); (case wsd => first | assumption | omega | decide))
  | ((with_reducible refine' w_stD ?wsd ?_); (case wsd => walk_at "hp"))
  | ((with_reducible refine' w_stT ?wsd ?_); (case wsd => walk_at "sq"))
  | ((with_reducible refine' w_stL ?wsd ?_); (case wsd => walk_at "sq"))
  | ((with_reducible refine' w_isD ?wsd ?_); (case wsd => walk_at "hp"))
  | ((with_reducible refine' isi_tup ?wsd ?_); (case wsd => walk_at "sq"))
  | ((with_reducible refine' isi_dict ?wsd ?_); (case wsd => walk_at "hp"))
  | ((with_reducible refine' w_lenDv ?wsd ?_); (case wsd => walk_at "hp"))
  | ((with_reducible refine' w_enum ?wsd ?_); (case wsd => walk_at "sq"))
  | ((with_reducible refine' w_enumT ?wsd ?_); (case wsd => walk_at "sq"))
  | ((with_reducible refine' w_tyL ?wsd ?_); (case wsd => walk_at "sq")))
local macro_rules | `(tactic| walk_at "side") => `(tactic| first | omega | decide | (constructor <;> omega) | (constructor <;> decide) | (simp only [List.length_map, List.length_append, List.length_cons, List.length_nil, CDivN, CMul, CPow]; first | omega | decide | (constructor <;> omega)))
local macro_rules | `(tactic| walk_at "w") => `(tactic| repeat (walk_at "w1"))
theorem rdcNone {K : PySem.W.Frag} {H1 : Hp} {σ : L2.St} {Q : VK} {tk tv : TE} {tt : TT} {g : TG} {vs : List Nat} {J : It} {n : Nat} {G : Hp → Prop} {Y : Nat → Hp → V → Hp → Prop} (w : Walk J n G Y) (hG : ∀ H, Same H1 H → G H)
    (hs : ∀ i x H H', i < n → Same H1 H → Y i H x H' → ∀ (K3 : L2.St → Bool → Hp → Prop), (∀ σ2 H3, Same H H3 → K3 σ2 false H3) → g x (wipe σ vs) H' fun σ2 H2 => wipe σ2 vs = wipe σ vs ∧ tt σ2 H2 (K3 σ2))
    (hd : ∀ D H, H1 D = none → Same H1 H → H D = some (.dK []) → Q (.ref D) H) : RDc g tt tk tv vs σ Q J H1 := by
  intro D hD
  refine ⟨fun i m H => m = n - i ∧ i ≤ n ∧ Same H1 H ∧ H D = some (.dK []), ⟨n, by simp, Nat.zero_le _, Same.alloc hD, upd_same⟩, ?_⟩
  rintro i m H ⟨rfl, hi, s, e⟩
  by_cases hlt : i < n
  · refine .inr ⟨w.goes i H hlt (hG H s), fun H' => i < n ∧ Same H1 H' ∧ H' D = some (.dK []), fun H' z => ⟨n - (i + 1), by omega, rfl, hlt, z.2⟩, fun x H' y => ?_⟩
    exact hs i x H H' hlt s (w.yields i H x H' hlt (hG H s) y) (fun σ2 b H3 => if b = true then tk σ2 H3 fun y H4 => tv σ2 H4 fun z H5 => ∃ kvs k, y = kV k ∧ H5 D = some (.dK kvs) ∧ kvs.length < sizeLine ∧ (i < n ∧ Same H1 (upd H5 D (.dK (putK kvs k z))) ∧ (upd H5 D (.dK (putK kvs k z))) D = some (.dK [])) else (i < n ∧ Same H1 H3 ∧ H3 D = some (.dK []))) fun σ2 H3 s3 => (by rw [if_neg (by simp)]; exact ⟨hlt, s.trans s3, s3 _ _ e⟩)
  · have : i = n := by omega
    subst this
    exact .inl ⟨w.stops H (hG H s), hd D H hD s e⟩
def spPlayed (K : PySem.W.Frag) : Sp := fun vs H Q E => ∃ (p a l : Addr) (y : V) (N : NetD) (ks : List Str) (bl p0 : Str → Nat) (ord : List (Str × Nat)), vs = [.ref p, .ref a, .ref l, y] ∧ NetAt K H p N ∧ N.Ok ∧ BlAt H a N ks bl ∧ StIs H y N p0 ∧ OrdAt K H l ord ∧ (∀ e ∈ ord, e.1 ∈ N.names ∧ 1 ≤ e.2) ∧
  ((legal N (bsum N bl ks) p0 zu ord ∧ (∀ k ∈ N.names, N.wt (bsum N bl ks) p0 (aft zu ord) k ≤ 0) ∧ ∀ t wd od sd H', Same H H' → H' t = some (.tup [.ref wd, .ref od, .ref sd]) → H' wd = some (.dK []) → H' od = some (DI ["o", "p"] fun k => (N.got p0 (aft zu ord) k : Int)) → H' sd = some (DI N.names fun k => (N.plc k (p0 k) (aft zu ord k) : Int)) → Q (.ref t) H') ∨
   ∃ l1 e l2, ord = l1 ++ e :: l2 ∧ legal N (bsum N bl ks) p0 zu l1 ∧ N.wt (bsum N bl ks) p0 (aft zu l1) e.1 < e.2 ∧ ∀ d H', Same H H' → H d = none → H' d = some (.xd [(("place" : Str), .int l1.length)]) → E (.ref (He.ga K "BadOrder")) (some d) H')
abbrev N_played : List Str := ["net", "balls", "order", "standing", "board", "waiting", "name"]
theorem sc_played : FnScope N_played ["net", "balls", "order", "standing"] (defScope s_played) := ⟨rfl, rfl, rfl, by decide +kernel, rfl, by decide +kernel, by decide +kernel⟩
section
variable {P : Program} {w : World} {K : PySem.W.Frag} {mg : Str → Option Value} {base : Heap}
theorem ok_played (T : TX K mg) (hB : BadRule P K mg) : Fok P w K mg base (L2.CX P w) 5 (He.ga K "played") ["net", "balls", "order", "standing"] [] (spPlayed K) := by
  obtain ⟨fd, F⟩ := T.fn_played
  obtain ⟨ds, h1, h2⟩ := F.binds1 (ps := ["net", "balls", "order", "standing"]) 4 1 (by simp) rfl fun _ _ _ _ _ _ _ us its h1 h2 => match us, its, h1, h2 with | [_, _, _, _], [_], _, _ => ⟨_, rfl, by kernel_rfl⟩
  refine ⟨⟨fd, ds, ?_, h2, h1⟩, F.kp⟩
  refine F.ok sc_played (fun vs H Q E h => ?_) (fun cdv A outer s H vs Q E hr h => ?_)
  · obtain ⟨_, _, _, _, _, _, _, _, _, rfl, _⟩ := h
    rfl
  obtain ⟨p, a, l, y, N, ks, bl, p0, ord, rfl, hA, hok, hbl, hst, hord, hnam, k⟩ := h
  have hu := hu_of hr
  have O_begun := @ok_begun P w K mg base T
  have O_Board_follow := @ok_Board_follow P w K mg base T hB
  have hp0 : Passes (L2.CX P w) (cxOf (L2.CX P w) P w K mg base N_played "played" (defScope s_played) (He.ga K "played") cdv A outer s H E) (fun _ _ _ => False) := passN
  have hp : Passes (L2.CX P w) (cxOf (L2.CX P w) P w K mg base N_played "played" (defScope s_played) (He.ga K "played") cdv A outer s H E) E := passes_call (takes_of rfl rfl rfl rfl) fun _ _ _ _ h => h
  show SSX _ _ _ _ _
  refine ssx_cons (ps_set (i := 4) sc_played.nd rfl (Or.inr rfl) (pe_callF O_begun (hr.mono (by decide)) rfl T.g_begun hp0 (pa_cons (pv 0) (pa_cons (pv 1) (pa_cons (pv 3) pa_nil))))) ?_
  walk_at "w"
  refine ⟨p, N, _, y, rfl, hA, hok, .inr ⟨a, ks, bl, rfl, hbl, .inr ⟨p0, hst, fun b st wk od td dx Hn H2 s2 hb0 B => ?_⟩⟩⟩
  walk_at "w"
  refine ssx_cons (ps_expr (pe_methF (pv 4) T.c_Board T.m_Board_follow O_Board_follow (hr.mono (by decide)) hp (pa_cons (pv 2) pa_nil))) ?_
  walk_at "w"
  refine w_bmeth (B.sm _ _ B.ob) ?_
  walk_at "w"
  refine ⟨b, l, p, st, wk, od, td, dx, N, Hn, _, p0, zu, ord, rfl, B, hok, hord.same s2, hnam, ?_⟩
  rcases k with ⟨hleg, hrest, k⟩ | ⟨l1, e, l2, h1, h2, h3, k⟩
  rotate_left
  · exact .inr ⟨l1, e, l2, h1, h2, h3, fun d H' s' hd h4 => k d H' (s2.trans s') (s2.free hd) h4⟩
  refine .inl ⟨hleg, fun H3 B3 => ?_⟩
  have hb3 := B3.sm _ _ B3.ob
  obtain ⟨ws, wf, hwk, hzr, hnd, hwn, hwf⟩ := B3.hwk
  have hwl : ws.length ≤ 4 := Nat.le_trans (List.Nodup.length_le_of_subset hnd hwn) hok.len.2
  refine ssx_cons (ps_setDc (i := 5) (own := [("name", 6)]) rfl sc_played.nd rfl rfl (sw_trueD rfl rfl rfl (by decide +kernel)) (qi_list K (pe_callB (k_sortD rfl) rfl T.f_sorted bb_sorted (pa_cons (q_fld K (pv 4) rfl) pa_nil))) (blkOk_by (N := N_played) (sc := defScope s_played) (by decide +kernel)) (fun _ _ _ _ _ => (pg_name (i := 6) sc_played.nd rfl (Or.inl rfl))) (fun _ _ _ _ _ => (pts_one (pt_cmpR op_gt (pe_dget hu (q_fld K (pv 4) rfl) (pv 6) (fun _ _ => rfl)) pe_int (nomark _)))) (fun _ _ _ _ _ => (pv 6)) (fun _ _ _ _ _ => (pe_dget hu (q_fld K (pv 4) rfl) (pv 6) (fun _ _ => rfl)))) ?_
  walk_at "w"
  refine w_bwaiting T hb3 ?_
  walk_at "w"
  refine ⟨wk, _, ws, rfl, .inl hwk, by simp [mapK, Function.comp_def], by omega, fun ys q hys _ hq => ?_⟩
  have s4 : Same H3 (upd H3 q (.lst (ys.map V.str))) := Same.alloc hq
  have h4 : (upd H3 q (.lst (ys.map V.str))) q = some (.lst (ys.map V.str)) := upd_same
  generalize upd H3 q (.lst (ys.map V.str)) = H4 at *
  walk_at "w"
  refine rdcNone (K := K) (walk_list (xs := ys.map V.str)) (fun H' s' => sqL (s' _ _ h4)) ?_ ?_
  · rintro i x _ H5 hi s5 ⟨rfl, hx⟩ K3 hK3
    obtain ⟨z, hz, rfl⟩ := map_get hx
    have hzw : z ∈ ws := hys.mem_iff.mp (List.mem_of_getElem? hz)
    have hle := hrest z (hwn z hzw)
    walk_at "w"
    refine ⟨rfl, ?_⟩
    walk_at "w"
    refine w_bwaiting T (s5 _ _ (s4 _ _ hb3)) ?_
    walk_at "w"
    refine w_getI (s5 _ _ (s4 _ _ hwk)) hzw ?_
    rw [hwf z (hwn z hzw)]
    walk_at "w"
    rw [decide_eq_false (by omega)]
    exact hK3 _ _ (Same.refl _)
  · intro D H5 hD s5 h5
    have s35 := s4.trans s5
    have hb5 := s35 _ _ hb3
    walk_at "w"
    refine ssx_cons (ps_ret (pe_tup (pa_cons (pv 5) (pa_cons (q_fld K (pv 4) rfl) (pa_cons (q_fld K (pv 4) rfl) pa_nil))))) ?_
    walk_at "w"
    refine w_bout T hb5 ?_
    walk_at "w"
    refine w_bstanding T hb5 ?_
    walk_at "w"
    refine w_newT (by simp) fun t H6 ht s6 h6 => ?_
    exact k t D od st H6 (s2.trans (B3.sm.trans (s35.trans s6))) h6 (s6 _ _ h5) (s6 _ _ (s35 _ _ B3.hod)) (s6 _ _ (s35 _ _ B3.hst))
end
end K1
namespace K1
open PySem PySem.Spec L2
open PyProof.Rows hiding St
local macro_rules | `(tactic| walk_at "hp") => `(tactic| first | assumption | exact upd_same | (refine' Same.to ?wse ?wsh; (case wse => assumption); (case wsh => walk_at "hp")) | ((rw [upd_ne (by first | assumption | (apply Ne.symm; assumption))]); walk_at "hp"))
local macro_rules | `(tactic| walk_at "sq") => `(tactic| first | assumption | exact sqL (by walk_at "hp") | exact sqT (by walk_at "hp") | (refine' Same.seqTo ?wse ?wsh; (case wse => assumption); (case wsh => walk_at "sq")) | (refine' Same.sqtTo ?wse ?wsh; (case wse => assumption); (case wsh => walk_at "sq")))
local macro_rules | `(tactic| walk_at "w1") => `(tactic| first
  | with_reducible refine w_asg ?_
  | with_reducible refine w_c ?_
  | with_reducible refine w_gname ?_
  | with_reducible refine w_if ?_
  | with_reducible refine w_ifs ?_
  | with_reducible refine w_test ?_
  | with_reducible refine w_tB ?_
  | with_reducible refine w_bl ?_
  | with_reducible refine w_op ?_
  | with_reducible refine w_nil ?_
  | with_reducible refine w_cons ?_
  | with_reducible refine w_cb ?_
  | with_reducible refine w_I0 ?_
  | with_reducible refine w_lst ?_
  | with_reducible refine w_tup ?_
  | with_reducible refine w_sl ?_
  | with_reducible refine w_noPart ?_
  | with_reducible refine w_part ?_
  | with_reducible refine w_int ?_
  | with_reducible refine w_par ?_
  | with_reducible refine w_two ?_
  | with_reducible refine w_par3 ?_
  | with_reducible refine w_three ?_
  | with_reducible refine w_ret ?_
  | with_reducible refine w_drop ?_
  | with_reducible refine w_chain ?_
  | with_reducible refine w_and ?_
  | with_reducible refine w_or ?_
  | with_reducible refine w_not ?_
  | with_reducible refine w_notV ?_
  | with_reducible refine w_andV ?_
  | with_reducible refine w_orV ?_
  | with_reducible refine w_int1 ?_
  | with_reducible refine w_true ?_
  | with_reducible refine w_false ?_
  | with_reducible refine w_for ?_
  | with_reducible refine w_rng1 ?_
  | with_reducible refine w_rng2 ?_
  | with_reducible refine w_iList ?_
  | with_reducible refine w_iTup ?_
  | with_reducible refine w_dget ?_
  | with_reducible refine w_din ?_
  | with_reducible refine w_dnotin ?_
  | with_reducible refine w_dput ?_
  | with_reducible refine w_dget2 ?_
  | with_reducible refine w_fld ?_
  | with_reducible refine w_dnew ?_
  | with_reducible refine w_lc ?_
  | with_reducible refine w_dc ?_
  | with_reducible refine w_iStr ?_
  | with_reducible refine w_str ?_
  | with_reducible refine w_iEnum ?_
  | with_reducible refine w_iZip ?_
  | with_reducible refine w_yes ?_
  | with_reducible refine w_gtup ?_
  | with_reducible refine w_gcons ?_
  | with_reducible refine w_rcons ?_
  | with_reducible refine w_gnil ?_
  | with_reducible refine w_leS ?_
  | with_reducible refine w_isN ?_
  | with_reducible refine w_notN ?_
  | with_reducible refine w_call ?_
  | with_reducible refine w_meth ?_
  | with_reducible refine w_bm ?_
  | with_reducible refine w_bm0 ?_
  | with_reducible refine isi_int ?_
  | with_reducible refine isi_bl_int ?_
  | with_reducible refine isi_int_bl ?_
  | with_reducible refine isi_bl ?_
  | with_reducible refine isi_str ?_
  | with_reducible refine isi_non_dict ?_
  | with_reducible refine isi_int_dict ?_
  | with_reducible refine w_ntrue ?_
  | with_reducible refine w_nfalse ?_
  | with_reducible refine w_wt ?_
  | with_reducible refine w_starD ?_
  | with_reducible refine w_starT ?_
  | with_reducible refine w_listVals ?_
  | with_reducible refine w_iEnumT ?_
  | with_reducible refine w_iEnumS ?_
  | with_reducible refine w_enumS ?_
  | with_reducible refine w_frz ?_
  | with_reducible refine w_iItems ?_
  | with_reducible refine w_iKeys ?_
  | with_reducible refine w_iVals ?_
  | with_reducible refine w_strS ?_
  | with_reducible refine w_daug ?_
  | with_reducible refine w_rAdd ?_
  | with_reducible refine w_sfld ?_
  | ((with_reducible refine' w_var ?wsd ?_); (case wsd => first | rfl | assumption))
  | ((with_reducible refine' w_eq ?wsd ?_); (case wsd => rfl))
  | ((with_reducible refine' w_ne ?wsd ?_); (case wsd => rfl))
  | ((with_reducible refine' w_lenL ?wsd ?_); (case wsd => walk_at "sq"))
  | ((with_reducible refine' w_lenT ?wsd ?_); (case wsd => walk_at "sq"))
  | ((with_reducible refine' w_itL ?wsd ?_); (case wsd => walk_at "sq"))
  | ((with_reducible refine' w_itT ?wsd ?_); (case wsd => walk_at "sq"))
  | ((with_reducible refine' w_rng1v ?wsd ?_); (case wsd => omega))
  | ((with_reducible refine' w_rng2v ?wsd ?_); (case wsd => omega))
  | ((with_reducible refine' w_I ?wsd ?_); (case wsd => walk_at "side"))
  | ((with_reducible refine' w_dtrue ?wsd ?_); (case wsd => first | assumption | omega | rfl | decide))
  | ((with_reducible refine' w_dfalse ?wsd ?_); (case wsd => first | assumption | omega | decide))
  | ((with_reducible refine' w_ndtrue ?wsd ?_); (case wsd => first | assumption | omega | rfl | decide))
  | ((with_reducible refine' w_ndfalse ?wsd ?_); (case wsd => first | assumption | omega | decide))
  | ((with_reducible refine' w_stD ?wsd ?_); (case wsd => walk_at "hp"))
  | ((with_reducible refine' w_stT ?wsd ?_); (case wsd => walk_at "sq"))
  | ((with_reducible refine' w_stL ?wsd ?_); (case wsd => walk_at "sq"))
  | ((with_reducible refine' w_isD ?wsd ?_); (case wsd => walk_at "hp"))
  | ((with_reducible refine' isi_tup ?wsd ?_); (case wsd => walk_at "sq"))
  | ((with_reducible refine' isi_dict ?wsd ?_); (case wsd => walk_at "hp"))
  | ((with_reducible refine' w_lenDv ?wsd ?_); (case wsd => walk_at "hp"))
  | ((with_reducible refine' w_enum ?wsd ?_); (case wsd => walk_at "sq"))
  | ((with_reducible refine' w_enumT ?wsd ?_); (case wsd => walk_at "sq"))
  | ((with_reducible refine' w_tyL ?wsd ?_); (case wsd => walk_at "sq")))
local macro_rules | `(tactic| walk_at "side") => `(tactic| first | omega | decide | (constructor <;> omega) | (constructor <;> decide) | (simp only [List.length_map, List.length_append, List.length_cons, List.length_nil, CDivN, CMul, CPow]; first | omega | decide | (constructor <;> omega)))
local macro_rules | `(tactic| walk_at "w") => `(tactic| repeat (walk_at "w1"))
def spShows (K : PySem.W.Frag) : Sp := fun vs H Q _ => ∃ (s p a : Addr) (y : V) (N : NetD) (ks : List Str) (bl p0 us : Str → Nat) (ord : List (Str × Nat)), vs = [.ref s, .ref p, .ref a, y] ∧ NetAt K H p N ∧ N.Ok ∧ BlAt H a N ks bl ∧ StIs H y N p0 ∧ SetO K H s N p0 us ord ∧ (∀ e ∈ ord, e.1 ∈ N.names ∧ 1 ≤ e.2) ∧
  ((legal N (bsum N bl ks) p0 zu ord ∧ (∀ k ∈ N.names, N.wt (bsum N bl ks) p0 (aft zu ord) k ≤ 0) ∧ (∀ k ∈ N.names, aft zu ord k = us k) ∧ ∀ H', Same H H' → Q (.bl true) H') ∨
   (legal N (bsum N bl ks) p0 zu ord ∧ (∃ k ∈ N.names, 0 < N.wt (bsum N bl ks) p0 (aft zu ord) k) ∧ ∀ H', Same H H' → Q (.bl false) H') ∨
   ((∃ l1 e l2, ord = l1 ++ e :: l2 ∧ legal N (bsum N bl ks) p0 zu l1 ∧ N.wt (bsum N bl ks) p0 (aft zu l1) e.1 < e.2) ∧ ∀ H', Same H H' → Q (.bl false) H'))
abbrev N_Settled_shows : List Str := ["self", "net", "balls", "standing", "board"]
theorem sc_Settled_shows : FnScope N_Settled_shows ["self", "net", "balls", "standing"] (defScope s_Settled_shows) := ⟨rfl, rfl, rfl, by decide +kernel, rfl, by decide +kernel, by decide +kernel⟩
section
variable {P : Program} {w : World} {K : PySem.W.Frag} {mg : Str → Option Value} {base : Heap}
theorem rcG_three {X : Cx} (hK : X.K = K) : RcG X 1 (DTup K DDic) := by
  subst hK
  exact rcG_tup mon_dic eqG_dic
theorem ok_Settled_shows (T : TX K mg) (hB : BadRule P K mg) : Fok P w K mg base CX0 5 (He.ma K (He.ga K "Settled") "shows") ["self", "net", "balls", "standing"] [] (spShows K) := by
  obtain ⟨fd, F⟩ := T.fn_Settled_shows
  obtain ⟨ds, h1, h2⟩ := F.binds1 (ps := ["self", "net", "balls", "standing"]) 4 1 (by simp) rfl fun _ _ _ _ _ _ _ us its h1 h2 => match us, its, h1, h2 with | [_, _, _, _], [_], _, _ => ⟨_, rfl, by kernel_rfl⟩
  refine ⟨⟨fd, ds, ?_, h2, h1⟩, F.kp⟩
  refine F.ok sc_Settled_shows (fun vs H Q E h => ?_) (fun cdv A outer s H vs Q E hr h => ?_)
  · obtain ⟨_, _, _, _, _, _, _, _, _, _, rfl, _⟩ := h
    rfl
  obtain ⟨s0, p, a, y, N, ks, bl, p0, us, ord, rfl, hA, hok, hbl, hst, hset, hnam, k⟩ := h
  have hu := hu_of hr
  have O_begun := @ok_begun P w K mg base T
  have O_Board_follow := @ok_Board_follow P w K mg base T hB
  have O_Board_first_waiting := @ok_Board_first_waiting P w K mg base T
  refine ssx_nox ?_
  refine ssx_cons (ps_set (i := 4) sc_Settled_shows.nd rfl (Or.inl rfl) (pe_callF O_begun (hr.mono (by decide)) rfl T.g_begun (passN (X := (cxOf CX0 P w K mg base N_Settled_shows "Settled.shows" (defScope s_Settled_shows) (He.ma K (He.ga K "Settled") "shows") cdv A outer s H E).nox)) (pa_cons (pv 1) (pa_cons (pv 2) (pa_cons (pv 3) pa_nil))))) ?_
  walk_at "w"
  refine ⟨p, N, _, y, rfl, hA, hok, .inr ⟨a, ks, bl, rfl, hbl, .inr ⟨p0, hst, fun b st wk od td dx Hn H2 s2 hb0 B => ?_⟩⟩⟩
  walk_at "w"
  refine ssx_cons (ps_tryX (Wout := fun _ _ _ _ => False) rfl rfl ⟨rfl, rfl, .inl T.g_BadOrder⟩ takes_none) ?_
  intro pn xe tk po
  obtain ⟨td0, od0, st0, ol0, dx0, hSn⟩ := hset.same s2
  have hS := hSn.same B.sm
  refine ssx_cons (ps_expr (pe_methF (pv 4) T.c_Board T.m_Board_follow O_Board_follow (hr.mono (by decide)) (passes_call (E := fun cls _ H' => cls = .ref (He.ga K "BadOrder") ∧ Same H H' ∧ ∀ H', Same H H' → Q (.bl false) H') tk fun cls d σ H' h => ⟨true, by rw [h.1]; exact T.x_BadOrder, fun _ a _ oe pn _ _ => ssx_cons (ps_ret pe_bl) (h.2.2 H' h.2.1), fun z => nomatch z⟩) (pa_cons (q_fld K (pv 0) rfl) pa_nil))) ?_
  walk_at "w"
  refine w_bmeth (B.sm _ _ B.ob) ?_
  walk_at "w"
  refine w_sorder T hS ?_
  walk_at "w"
  have sH := s2.trans B.sm
  refine ⟨b, ol0, p, st, wk, od, td, dx, N, Hn, _, p0, zu, ord, rfl, B, hok, hSn.hol, hnam, ?_⟩
  have key : (legal N (bsum N bl ks) p0 zu ord ∧ ((∃ k ∈ N.names, 0 < N.wt (bsum N bl ks) p0 (aft zu ord) k) ∧ (∀ H', Same H H' → Q (.bl false) H') ∨ (∀ k ∈ N.names, N.wt (bsum N bl ks) p0 (aft zu ord) k ≤ 0) ∧ (∀ k ∈ N.names, aft zu ord k = us k) ∧ ∀ H', Same H H' → Q (.bl true) H')) ∨
      ((∃ l1 e l2, ord = l1 ++ e :: l2 ∧ legal N (bsum N bl ks) p0 zu l1 ∧ N.wt (bsum N bl ks) p0 (aft zu l1) e.1 < e.2) ∧ ∀ H', Same H H' → Q (.bl false) H') := by
    rcases k with ⟨a1, a2, a3, a4⟩ | ⟨a1, a2, a3⟩ | a
    · exact .inl ⟨a1, .inr ⟨a2, a3, a4⟩⟩
    · exact .inl ⟨a1, .inl ⟨a2, a3⟩⟩
    · exact .inr a
  rcases key with ⟨hleg, k⟩ | ⟨⟨l1, e, l2, h1, h2, h3⟩, k⟩
  rotate_left
  · exact .inr ⟨l1, e, l2, h1, h2, h3, fun d H' s' hd h4 => ⟨rfl, s2.trans s', k⟩⟩
  refine .inl ⟨hleg, fun H3 B3 => ssx_nil ?_⟩
  have hb3 := B3.sm _ _ B3.ob
  refine ssx_cons (ps_if (pt_cmpR k_notN (pe_meth0F (pv 4) T.c_Board T.m_Board_first_waiting O_Board_first_waiting (hr.mono (by decide)) pass0) pe_non (nomark _)) SSX.ps SSX.ps) ?_
  walk_at "w"
  refine w_bmeth hb3 ?_
  walk_at "w"
  refine fw_use B3 hok fun v hv => ?_
  walk_at "w"
  rcases hv with ⟨rfl, hrest⟩ | ⟨k0, m1, m2, rfl, hsp, _, hpos⟩
  · refine w_ndtrue rfl ?_
    refine ssx_nil ?_
    rcases k with ⟨⟨k0, hk0, hpos⟩, _⟩ | ⟨_, heq, k⟩
    · have := hrest k0 hk0
      omega
    refine ssx_cons (ps_ret (pe_cmpR (op_eqG (rcG_three (K := K) rfl) (hr.mono (by decide))) (pe_tup (pa_cons (q_fld K (pv 4) rfl) (pa_cons (q_fld K (pv 4) rfl) (pa_cons (q_fld K (pv 4) rfl) pa_nil)))) (pe_tup (pa_cons (q_fld K (pv 0) rfl) (pa_cons (q_fld K (pv 0) rfl) (pa_cons (q_fld K (pv 0) rfl) pa_nil)))) (nomark _))) ?_
    walk_at "w"
    refine w_btaken T hb3 ?_
    walk_at "w"
    refine w_bout T hb3 ?_
    walk_at "w"
    refine w_bstanding T hb3 ?_
    walk_at "w"
    refine w_newT (by simp) fun m H4 hm s4 h4 => ?_
    have hS4 := (hSn.same B3.sm).same s4
    walk_at "w"
    refine w_staken T hS4 ?_
    walk_at "w"
    refine w_sout T hS4 ?_
    walk_at "w"
    refine w_sstanding T hS4 ?_
    walk_at "w"
    refine w_newT (by simp) fun m2 H5 hm2 s5 h5 => ?_
    have hS5 := hS4.same s5
    have s35 := s4.trans s5
    refine ⟨⟨m, m2, _, _, rfl, rfl, sqT (s5 _ _ h4), sqT h5, Prs.cons ?_ (Prs.cons ?_ (Prs.cons ?_ Prs.nil))⟩, fun H6 e6 => k H6 (s2.trans (B3.sm.trans (s35.trans e6)))⟩
    · exact ⟨_, _, _, _, _, _, rfl, rfl, s35 _ _ B3.htd, hS5.htd, rfl, fun k hk => ⟨hk, by rw [heq k hk]⟩⟩
    · exact ⟨_, _, _, _, _, _, rfl, rfl, s35 _ _ B3.hod, hS5.hod, rfl, fun k hk => ⟨hk, by rw [N.got_congr heq]⟩⟩
    · exact ⟨_, _, _, _, _, _, rfl, rfl, s35 _ _ B3.hst, hS5.hst, rfl, fun k hk => ⟨hk, by rw [heq k hk]⟩⟩
  · refine w_ndfalse (by intro z; cases z) ?_
    refine ssx_cons (ps_ret pe_bl) ?_
    walk_at "w"
    rcases k with ⟨_, k⟩ | ⟨hrest, _⟩
    · exact k H3 (s2.trans B3.sm)
    · have := hrest k0 (by rw [hsp]; simp)
      omega
end
end K1
namespace K1
open PySem PySem.Spec L2
open PyProof.Rows hiding St
local macro_rules | `(tactic| walk_at "hp") => `(tactic| first | assumption | exact upd_same | (refine' Same.to ?wse ?wsh; (case wse => assumption); (case wsh => walk_at "hp")) | ((rw [upd_ne (by first | assumption | (apply Ne.symm; assumption))]); walk_at "hp"))
local macro_rules | `(tactic| walk_at "sq") => `(tactic| first | assumption | exact sqL (by walk_at "hp") | exact sqT (by walk_at "hp") | (refine' Same.seqTo ?wse ?wsh; (case wse => assumption); (case wsh => walk_at "sq")) | (refine' Same.sqtTo ?wse ?wsh; (case wse => assumption); (case wsh => walk_at "sq")))
local macro_rules | `(tactic| walk_at "w1") => `(tactic| first
  | with_reducible refine w_asg ?_
  | with_reducible refine w_c ?_
  | with_reducible refine w_gname ?_
  | with_reducible refine w_if ?_
  | with_reducible refine w_ifs ?_
  | with_reducible refine w_test ?_
  | with_reducible refine w_tB ?_
  | with_reducible refine w_bl ?_
  | with_reducible refine w_op ?_
  | with_reducible refine w_nil ?_
  | with_reducible refine w_cons ?_
  | with_reducible refine w_cb ?_
  | with_reducible refine w_I0 ?_
  | with_reducible refine w_lst ?_
  | with_reducible refine w_tup ?_
  | with_reducible refine w_sl ?_
  | with_reducible refine w_noPart ?_
  | with_reducible refine w_part ?_
  | with_reducible refine w_int ?_
  | with_reducible refine w_par ?_
  | with_reducible refine w_two ?_
  | with_reducible refine w_par3 ?_
  | with_reducible refine w_three ?_
  | with_reducible refine w_ret ?_
  | with_reducible refine w_drop ?_
  | with_reducible refine w_chain ?_
  | with_reducible refine w_and ?_
  | with_reducible refine w_or ?_
  | with_reducible refine w_not ?_
  | with_reducible refine w_notV ?_
  | with_reducible refine w_andV ?_
  | with_reducible refine w_orV ?_
  | with_reducible refine w_int1 ?_
  | with_reducible refine w_true ?_
  | with_reducible refine w_false ?_
  | with_reducible refine w_for ?_
  | with_reducible refine w_rng1 ?_
  | with_reducible refine w_rng2 ?_
  | with_reducible refine w_iList ?_
  | with_reducible refine w_iTup ?_
  | with_reducible refine w_dget ?_
  | with_reducible refine w_din ?_
  | with_reducible refine w_dnotin ?_
  | with_reducible refine w_dput ?_
  | with_reducible refine w_dget2 ?_
  | with_reducible refine w_fld ?_
  | with_reducible refine w_dnew ?_
  | with_reducible refine w_lc ?_
  | with_reducible refine w_dc ?_
  | with_reducible refine w_iStr ?_
  | with_reducible refine w_str ?_
  | with_reducible refine w_iEnum ?_
  | with_reducible refine w_iZip ?_
  | with_reducible refine w_yes ?_
  | with_reducible refine w_gtup ?_
  | with_reducible refine w_gcons ?_
  | with_reducible refine w_rcons ?_
  | with_reducible refine w_gnil ?_
  | with_reducible refine w_leS ?_
  | with_reducible refine w_isN ?_
  | with_reducible refine w_notN ?_
  | with_reducible refine w_call ?_
  | with_reducible refine w_meth ?_
  | with_reducible refine w_bm ?_
  | with_reducible refine w_bm0 ?_
  | with_reducible refine isi_int ?_
  | with_reducible refine isi_bl_int ?_
  | with_reducible refine isi_int_bl ?_
  | with_reducible refine isi_bl ?_
  | with_reducible refine isi_str ?_
  | with_reducible refine isi_non_dict ?_
  | with_reducible refine isi_int_dict ?_
  | with_reducible refine w_ntrue ?_
  | with_reducible refine w_nfalse ?_
  | with_reducible refine w_wt ?_
  | with_reducible refine w_starD ?_
  | with_reducible refine w_starT ?_
  | with_reducible refine w_listVals ?_
  | with_reducible refine w_iEnumT ?_
  | with_reducible refine w_iEnumS ?_
  | with_reducible refine w_enumS ?_
  | with_reducible refine w_frz ?_
  | with_reducible refine w_iItems ?_
  | with_reducible refine w_iKeys ?_
  | with_reducible refine w_iVals ?_
  | with_reducible refine w_strS ?_
  | with_reducible refine w_daug ?_
  | with_reducible refine w_rAdd ?_
  | with_reducible refine w_sfld ?_
  | ((with_reducible refine' w_var ?wsd ?_); (case wsd => first | rfl | assumption))
  | ((with_reducible refine' w_eq ?wsd ?_); (case wsd => rfl))
  | ((with_reducible refine' w_ne ?wsd ?_); (case wsd => rfl))
  | ((with_reducible refine' w_lenL ?wsd ?_); (case wsd => walk_at "sq"))
  | ((with_reducible refine' w_lenT ?wsd ?_); (case wsd => walk_at "sq"))
  | ((with_reducible refine' w_itL ?wsd ?_); (case wsd => walk_at "sq"))
  | ((with_reducible refine' w_itT ?wsd ?_); (case wsd => walk_at "sq"))
  | ((with_reducible refine' w_rng1v ?wsd ?_); (case wsd => omega))
  | ((with_reducible refine' w_rng2v ?wsd ?_); (case wsd => omega))
  | ((with_reducible refine' w_I ?wsd ?_); (case wsd => walk_at "side"))
  | ((with_reducible refine' w_dtrue ?wsd ?_); (case wsd => first | assumption | omega | rfl | decide))
  | ((with_reducible refine' w_dfalse ?wsd ?_); (case wsd => first | assumption | omega | decide))
  | ((with_reducible refine' w_ndtrue ?wsd ?_); (case wsd => first | assumption | omega | rfl | decide))
  | ((with_reducible refine' w_ndfalse ?wsd ?_); (case wsd => first | assumption | omega | decide))
  | ((with_reducible refine' w_stD ?wsd ?_); (case wsd => walk_at "hp"))
  | ((with_reducible refine' w_stT ?wsd ?_); (case wsd => walk_at "sq"))
  | ((with_reducible refine' w_stL ?wsd ?_); (case wsd => walk_at "sq"))
  | ((with_reducible refine' w_isD ?wsd ?_); (case wsd => walk_at "hp"))
  | ((with_reducible refine' isi_tup ?wsd ?_); (case wsd => walk_at "sq"))
  | ((with_reducible refine' isi_dict ?wsd ?_); (case wsd => walk_at "hp"))
  | ((with_reducible refine' w_lenDv ?wsd ?_); (case wsd => walk_at "hp"))
  | ((with_reducible refine' w_enum ?wsd ?_); (case wsd => walk_at "sq"))
  | ((with_reducible refine' w_enumT ?wsd ?_); (case wsd => walk_at "sq"))
  | ((with_reducible refine' w_tyL ?wsd ?_); (case wsd => walk_at "sq")))
local macro_rules | `(tactic| walk_at "side") => `(tactic| first | omega | decide | (constructor <;> omega) | (constructor <;> decide) | (simp only [List.length_map, List.length_append, List.length_cons, List.length_nil, CDivN, CMul, CPow]; first | omega | decide | (constructor <;> omega)))
local macro_rules | `(tactic| walk_at "w") => `(tactic| repeat (walk_at "w1"))
abbrev PO : List Str := ["p", "o"]
abbrev OP : List Str := ["o", "p"]
abbrev IJ : List Str := ["i", "j"]
def spNetInit (K : PySem.W.Frag) : Sp := fun vs H Q _ => ∃ (s kd id ol dx : Addr) (N : NetD) (Hn : Hp), vs = [.ref s, .ref kd, .ref id, .ref ol] ∧ H s = some (.ins (He.ga K "Net") dx []) ∧ Hn s = none ∧ Same Hn H ∧ N.Ok ∧ KnotsAt K Hn kd N ∧
  Hn id = some (.dK (mapK ["i", "j"] fun k => .str (inl N k))) ∧ Hn ol = some (.lst (PO.map V.str)) ∧ ∀ H', Same Hn H' → NetAt K H' s N → Q .non H'
abbrev N_Net_init : List Str := ["self", "knots", "inlets", "outlets", "wrong", "name", "known", "met"]
theorem sc_Net_init : FnScope N_Net_init ["self", "knots", "inlets", "outlets"] (defScope s_Net_init) := ⟨rfl, rfl, rfl, by decide +kernel, rfl, by decide +kernel, by decide +kernel⟩
theorem kl_ltr : ∀ x ∈ kl ++ PO ++ IJ, Ltr x := by
  intro x hx
  have : x = "a" ∨ x = "b" ∨ x = "c" ∨ x = "d" ∨ x = "p" ∨ x = "o" ∨ x = "i" ∨ x = "j" := by simpa using hx
  rcases this with rfl | rfl | rfl | rfl | rfl | rfl | rfl | rfl
  · exact ⟨97, by decide +kernel, by decide, by decide⟩
  · exact ⟨98, by decide +kernel, by decide, by decide⟩
  · exact ⟨99, by decide +kernel, by decide, by decide⟩
  · exact ⟨100, by decide +kernel, by decide, by decide⟩
  · exact ⟨112, by decide +kernel, by decide, by decide⟩
  · exact ⟨111, by decide +kernel, by decide, by decide⟩
  · exact ⟨105, by decide +kernel, by decide, by decide⟩
  · exact ⟨106, by decide +kernel, by decide, by decide⟩
theorem all_nodup {N : NetD} (h : N.Ok) : (N.names ++ PO ++ IJ).Nodup ∧ (N.names ++ PO).Nodup := by
  obtain ⟨n, h1, h2, e⟩ := h.nm
  rw [e]
  have : n = 1 ∨ n = 2 ∨ n = 3 ∨ n = 4 := by omega
  rcases this with rfl | rfl | rfl | rfl <;> decide +kernel
theorem all_ltr {N : NetD} (h : N.Ok) : ∀ x ∈ N.names ++ PO ++ IJ, Ltr x := by
  intro x hx
  refine kl_ltr x ?_
  rcases List.mem_append.mp hx with hx | hx
  · rcases List.mem_append.mp hx with hx | hx
    · exact List.mem_append.mpr (.inl (List.mem_append.mpr (.inl (h.sub hx))))
    · exact List.mem_append.mpr (.inl (List.mem_append.mpr (.inr hx)))
  · exact List.mem_append.mpr (.inr hx)
theorem ltr_ok {x : Str} (h : x ∈ kl ∨ x = "o" ∨ x = "p") : PyData.strOk x = true := by
  have : ∀ k ∈ kl ++ OP, PyData.strOk k = true := by decide +kernel
  refine this x ?_
  rcases h with h | rfl | rfl
  · exact List.mem_append.mpr (.inl h)
  · simp
  · simp
theorem w_getKf {H : Hp} {Q : VK} {a : Addr} {o : Obj} {ks : List Str} {f : Str → V} {k : Str} (h : H a = some (.frz o (.dK (mapK ks f)))) (hk : k ∈ ks) (q : Q (f k) H) : RGet (.ref a) (.str k) H Q := by
  refine ⟨a, f k, rfl, .inl ⟨mapK ks f, Sum.inr k, .inr ⟨o, h⟩, rfl, ?_⟩, q⟩
  rw [valV_mapK, if_pos hk]
section
variable {P : Program} {w : World} {K : PySem.W.Frag} {mg : Str → Option Value} {base : Heap}
theorem ok_Net_init (T : TX K mg) : Fok P w K mg base CX0 3 (He.ma K (He.ga K "Net") "__init__") ["self", "knots", "inlets", "outlets"] [] (spNetInit K) := by
  obtain ⟨fd, F⟩ := T.fn_Net_init
  refine ⟨⟨fd, [], ?_, F.bindsN fun _ _ _ _ _ _ us hl => match us, hl with | [_, _, _, _], _ => rfl, .nil⟩, F.kp⟩
  refine F.ok sc_Net_init (fun vs H Q E h => ?_) (fun cdv A outer s H vs Q E hr h => ?_)
  · obtain ⟨_, _, _, _, _, _, _, rfl, _⟩ := h
    rfl
  obtain ⟨b, kd, id, ol, dx, N, Hn, rfl, hb0, hnb, sm0, hok, hkn, hil, hol, k⟩ := h
  have hu := hu_of hr
  have O_first_wrong := @ok_first_wrong P w K mg base T
  have O_is_knot := @ok_is_knot P w K mg base T
  have O_Net_met := @ok_Net_met P w K mg base T
  have hln := hok.len
  obtain ⟨ka, hka, hkk⟩ := hkn
  refine ssx_nox ?_
  have hka0 := sm0 _ _ hka
  have hil0 := sm0 _ _ hil
  refine ssx_cons (ps_if (PW.pt (pw_or (pt_not (pt_val (pe_callB (q_isi K) rfl T.f_isinstance bb_isinstance (pa_cons (pv 1) (pa_cons (pe_bltn (v := .ty "dict") rfl T.f_dict bt_dict rfl) pa_nil))))) (pw_or (pt_not (pt_chain op_le op_le pe_int (pe_callB k_lenD rfl T.f_len bb_len (pa_cons (pv 1) pa_nil)) (pe_glob (v := .int 12) rfl T.i_MOST_KNOTS.choose_spec ⟨_, rfl⟩))) (pw_or1 (pt_not (pt_val (pe_callB (q_isi K) rfl T.f_isinstance bb_isinstance (pa_cons (pv 2) (pa_cons (pe_bltn (v := .ty "dict") rfl T.f_dict bt_dict rfl) pa_nil))))))))) SSX.ps SSX.ps) ?_
  walk_at "w"
  rw [mapK_len]
  walk_at "w"
  refine ssx_nil ?_
  refine ssx_cons (ps_if (PW.pt (pw_or (pt_not (pt_val (pe_callB (q_isiT K) rfl T.f_isinstance bb_isinstance (pa_cons (pv 3) (pa_cons (pe_tup (pa_cons (pe_bltn (v := .ty "list") rfl T.f_list bt_list rfl) (pa_cons (pe_bltn (v := .ty "tuple") rfl T.f_tuple bt_tuple rfl) pa_nil))) pa_nil))))) (pw_or1 (pt_cmpR (op_eqDF (Nat.lt_of_le_of_lt (Nat.le_add_right _ 64) hr.units)) (pv 2) pe_dnewK (nomark _))))) SSX.ps SSX.ps) ?_
  walk_at "w"
  refine w_newT (by simp) fun q1 H1 hq1 s1 h1 => ?_
  walk_at "w"
  refine isi_lt_L h1 (sqL (s1 _ _ (sm0 _ _ hol))) ?_
  walk_at "w"
  refine w_new fun d2 H2 hd2 s2 h2 => ?_
  refine w_eqDF (s2 _ _ (s1 _ _ hil0)) h2 (by rw [mapK_len]; simp) ?_
  walk_at "w"
  refine ssx_nil ?_
  have sm2 := sm0.trans (s1.trans s2)
  have hb2 := s2 _ _ (s1 _ _ hb0)
  clear h1 h2 hq1 hd2
  refine ssx_cons (ps_set (i := 4) sc_Net_init.nd rfl (Or.inl rfl) (pe_callF O_first_wrong (hr.mono (by decide)) rfl T.g_first_wrong pass0 (pa_cons (pe_lst (pa_starD rfl (pv 1) (qa_star K (pv 3) (pa_starD rfl (pv 2) pa_nil)))) pa_nil))) ?_
  walk_at "w"
  have el : ((mapK N.names fun k => V.ref (ka k)).map fun kv => kV kv.1) = N.names.map V.str := by simp [mapK, Function.comp_def, kV]
  have el2 : ((mapK IJ fun k => V.str (inl N k)).map fun kv => kV kv.1) = IJ.map V.str := by simp [mapK, Function.comp_def, kV]
  rw [el, el2]
  refine w_newL (by simp; omega) fun l3 H3 hl3 s3 h3 => ?_
  walk_at "w"
  refine ⟨l3, N.names ++ PO ++ IJ, rfl, sqL (by rw [h3]; simp), by simp; omega, (all_nodup hok).1, all_ltr hok, fun w4 H4 s4 hw4 h4 => ?_⟩
  walk_at "w"
  refine ssx_cons (ps_if (pt_cmpR (q_neD K hr.units) (pv 4) (pe_lst pa_nil) (nomark _)) SSX.ps SSX.ps) ?_
  walk_at "w"
  refine w_newL (by simp) fun l5 H5 hl5 s5 h5 => ?_
  refine w_neNilL (sqL (s5 _ _ h4)) (sqL h5) DL.nil ?_
  walk_at "w"
  refine ssx_nil ?_
  have sm5 := sm2.trans (s3.trans (s4.trans s5))
  have hb5 := s5 _ _ (s4 _ _ (s3 _ _ hb2))
  clear h3 hl3 hw4 hl5 h5
  refine ssx_cons (ps_setDc (i := 6) (own := [("name", 5)]) rfl sc_Net_init.nd rfl rfl (sw_trueD rfl rfl rfl (by decide +kernel)) (qi_list K (pe_lst (pa_starD rfl (pv 1) (qa_star K (pv 3) pa_nil)))) (blkOk_by (N := N_Net_init) (sc := defScope s_Net_init) (by decide +kernel)) (fun _ _ _ _ _ => (pg_name (i := 5) sc_Net_init.nd rfl (Or.inl rfl))) (fun _ _ _ _ _ => pts_nil) (fun _ _ _ _ _ => (pv 5)) (fun _ _ _ _ _ => pe_bl)) ?_
  walk_at "w"
  rw [el, List.append_nil, ← List.map_append]
  refine w_newL (by simp; omega) fun l6 H6 hl6 s6 h6 => ?_
  refine w_itL (sqL h6) ?_
  refine rdcV (walk_list (xs := (N.names ++ PO).map V.str)) (N.names ++ PO) (fun _ => .bl true) (by rw [List.length_map]) (by rw [List.length_map]; simp; omega) (all_nodup hok).2 (fun H' s => sqL (s _ _ h6)) ?_ ?_
  · rintro i x _ H7 y hi hy s7 ⟨rfl, hx⟩ KT KF hKT
    obtain ⟨y', e1, rfl⟩ := map_get hx
    rw [hy] at e1; cases e1
    walk_at "w"
    refine ⟨rfl, ?_⟩
    walk_at "w"
    exact hKT _ (Same.refl _)
  intro kd7 H7 hkd7 s7 h7
  walk_at "w"
  have sm7 := sm5.trans (s6.trans s7)
  have hb7 := s7 _ _ (s6 _ _ hb5)
  clear h6 hl6 hkd7
  refine ssx_cons (ps_for PassesOwn.never rfl (qi_list K (pe_callB (k_sortD rfl) rfl T.f_sorted bb_sorted (pa_cons (pv 1) pa_nil))) (pg_name (i := 5) sc_Net_init.nd rfl (Or.inl rfl)) SSX.ps) ?_
  walk_at "w"
  refine w_sortD (sm7 _ _ hka) (by omega) (names_sorted hok) fun l8 H8 hl8 s8 h8 => ?_
  walk_at "w"
  refine for_txtL (xs := N.names) (fun i σ H9 => (∃ o5, σ = [some (.ref b), some (.ref kd), some (.ref id), some (.ref ol), some (.ref w4), o5, some (.ref kd7), none]) ∧ Same H8 H9) (fun i σ H9 h => sqL (h.2 _ _ h8)) ⟨⟨_, rfl⟩, Same.refl _⟩ ?_ ?_
  · rintro i y σ H9 hy ⟨⟨o5, rfl⟩, s9⟩
    have hyn := List.mem_of_getElem? hy
    have s89 := s8.trans s9
    walk_at "w"
    refine ssx_cons (ps_if (pt_not (pt_val (pe_callF O_is_knot (hr.mono (by decide)) rfl T.g_is_knot pass0 (pa_cons (pe_dget hu (pv 1) (pv 5) (fun _ _ => rfl)) (pa_cons (pv 6) pa_nil))))) SSX.ps SSX.ps) ?_
    walk_at "w"
    refine w_getK (s89 _ _ (sm7 _ _ hka)) hyn ?_
    walk_at "w"
    have hd := hok.dr y hyn
    have ht := hok.tl y hyn
    have hf := hok.fl y hyn
    have hmem : ∀ t, (t ∈ N.names ∨ t = "o" ∨ t = "p") → t ∈ N.names ++ PO := fun t h => by
      rcases h with h | rfl | rfl
      · exact List.mem_append.mpr (.inl h)
      · exact List.mem_append.mpr (.inr (by simp))
      · exact List.mem_append.mpr (.inr (by simp))
    refine ⟨ka y, kd7, N.fr y, N.tn y, N.names ++ PO, _, rfl, (hkk y hyn).same (sm7.trans s89), s89 _ _ h7, ⟨by omega, fun d h => ⟨by have := (hd d (List.mem_append.mpr (.inl h))).1; omega, fun t z => hmem t ((hd d (List.mem_append.mpr (.inl h))).2 t z)⟩⟩,
      ⟨by omega, fun d h => ⟨by have := (hd d (List.mem_append.mpr (.inr h))).1; omega, fun t z => hmem t ((hd d (List.mem_append.mpr (.inr h))).2 t z)⟩⟩, fun z => by rw [z] at ht; simp at ht, fun d h t z => ltr_ok ?_, fun H10 s10 => ?_⟩
    · rcases (hd d (List.mem_append.mpr (.inr h))).2 t z with z | z
      · exact .inl (hok.sub z)
      · exact .inr z
    · walk_at "w"
      exact ssx_nil (ssx_nil ⟨⟨_, rfl⟩, s9.trans s10⟩)
  rintro σ H9 ⟨⟨o5, rfl⟩, s9⟩
  have sm9 := sm7.trans (s8.trans s9)
  have hb9 := s9 _ _ (s8 _ _ hb7)
  clear h8 hl8 h7
  refine ssx_cons (ps_lock (ps_for PassesOwn.never rfl (pi_keys (pv 2)) (pg_name (i := 5) sc_Net_init.nd rfl (Or.inl rfl)) SSX.ps)) ?_
  have hil9 := sm9 _ _ hil
  refine w_lock hil9 fun od => ?_
  walk_at "w"
  refine w_kys frz_at ?_
  have hbid : b ≠ id := fun z => by rw [z, hil9] at hb9; cases hb9
  refine for_walk walk_ks (fun i σ H10 => (∃ o5, σ = [some (.ref b), some (.ref kd), some (.ref id), some (.ref ol), some (.ref w4), o5, some (.ref kd7), none]) ∧ Same (upd H9 id (.frz od (.dK (mapK IJ fun k => .str (inl N k))))) H10) ⟨⟨_, rfl⟩, Same.refl _⟩ (fun i σ H10 _ h => h.2 _ _ frz_at) ?_ ?_
  · rintro i x σ _ H10 hi ⟨⟨o5, rfl⟩, s10⟩ ⟨rfl, y, hy, rfl⟩
    have hyn := List.mem_of_getElem? hy
    walk_at "w"
    refine ssx_cons (ps_if (PW.pt (pw_or (pt_not (pt_val (pe_callB (q_isi K) rfl T.f_isinstance bb_isinstance (pa_cons (pe_dget hu (pv 2) (pv 5) (fun _ _ => rfl)) (pa_cons (pe_bltn (v := .ty "str") rfl T.f_str bt_str rfl) pa_nil))))) (pw_or1 (pt_cmp (pc_dnotin hu (pe_dget hu (pv 2) (pv 5) (fun _ _ => rfl)) (pv 1)))))) SSX.ps SSX.ps) ?_
    walk_at "w"
    have hfz := s10 _ _ frz_at
    refine w_getKf hfz hyn ?_
    walk_at "w"
    refine w_getKf hfz hyn ?_
    walk_at "w"
    have hkd : kd ≠ id := fun z => by
      have := sm9 _ _ hka
      rw [z, hil9] at this
      have e := congrArg (List.map Prod.fst) (HO.dK.inj (Option.some.inj this))
      have e2 : IJ.map (Sum.inr : Str → Key) = N.names.map Sum.inr := by simpa [mapK, Function.comp_def] using e
      have : ("i" : Str) ∈ N.names := by
        have h3 : (Sum.inr ("i" : Str) : Key) ∈ N.names.map (Sum.inr : Str → Key) := by rw [← e2]; simp
        obtain ⟨z, hz, ez⟩ := List.mem_map.mp h3
        exact (Sum.inr.inj ez) ▸ hz
      exact hok.no_i this
    refine w_notinK (s10 _ _ (by rw [upd_ne hkd]; exact sm9 _ _ hka)) ?_
    have hin : inl N y ∈ N.names := by
      unfold inl
      split
      · exact hok.a_in
      · exact hok.jk
    refine w_bl ?_
    refine w_ndtrue hin ?_
    exact ssx_nil (ssx_nil ⟨⟨_, rfl⟩, s10⟩)
  rintro σ H10 ⟨⟨o5, rfl⟩, s10⟩
  refine ⟨s10 _ _ frz_at, ?_⟩
  have sm11 : Same H9 (upd H10 id (.dK (mapK IJ fun k => .str (inl N k)))) := Same.unlock hil9 s10
  generalize upd H10 id (.dK (mapK IJ fun k => .str (inl N k))) = H11 at *
  have smB := sm9.trans sm11
  have hbB := sm11 _ _ hb9
  clear sm11 hb9 s10 hil9 hil0 hka0 hb7 hb5 hb2
  refine ssx_cons (qs_fld K (pv 0) (pe_dc (own := [("name", 5)]) rfl sc_Net_init.nd (qi_list K (pe_callB (k_sortD rfl) rfl T.f_sorted bb_sorted (pa_cons (pv 1) pa_nil))) (blkOk_by (N := N_Net_init) (sc := defScope s_Net_init) (by decide +kernel)) (fun _ _ _ _ _ => (pg_name (i := 5) sc_Net_init.nd rfl (Or.inl rfl))) (fun _ _ _ _ _ => pts_nil) (fun _ _ _ _ _ => (pv 5)) (fun _ _ _ _ _ => (pe_dget hu (pv 1) (pv 5) (fun _ _ => rfl)))) rfl) ?_
  walk_at "w"
  refine w_sortD (smB _ _ hka) (by omega) (names_sorted hok) fun l12 H12 hl12 s12 h12 => ?_
  walk_at "w"
  refine rdcV (walk_list (xs := N.names.map V.str)) N.names (fun k => .ref (ka k)) (by rw [List.length_map]) (by rw [List.length_map]; omega) hok.nodup (fun H' s => sqL (s _ _ h12)) ?_ ?_
  · rintro i x _ H13 y hi hy s13 ⟨rfl, hx⟩ KT KF hKT
    obtain ⟨y', e1, rfl⟩ := map_get hx
    rw [hy] at e1; cases e1
    walk_at "w"
    refine ⟨rfl, ?_⟩
    walk_at "w"
    refine w_getK (s13 _ _ (s12 _ _ (smB _ _ hka))) (List.mem_of_getElem? hy) ?_
    exact hKT _ (Same.refl _)
  intro kx H13 hkx s13 h13
  walk_at "w"
  have nb1 : b ≠ kx := fun z => by rw [← z, s12 _ _ hbB] at hkx; cases hkx
  refine w_sf (s13 _ _ (s12 _ _ hbB)) T.c_Net T.n_Net_knots (by simp) ?_
  rw [putF_new [] rfl rfl, List.nil_append]
  have smC : Same Hn (upd H13 b (.ins (He.ga K "Net") dx [("knots", .ref kx)])) := Same.mut (smB.trans (s12.trans s13)) hnb
  have hbC : (upd H13 b (.ins (He.ga K "Net") dx [("knots", .ref kx)])) b = some (.ins (He.ga K "Net") dx [("knots", .ref kx)]) := upd_same
  have hkC : (upd H13 b (.ins (He.ga K "Net") dx [("knots", .ref kx)])) kx = some (.dK (mapK N.names fun k => .ref (ka k))) := by rw [upd_ne nb1.symm]; exact h13
  generalize upd H13 b (.ins (He.ga K "Net") dx [("knots", .ref kx)]) = HC at *
  clear s12 h12 hl12 s13 h13 hbB
  refine ssx_cons (qs_fld K (pv 0) (pe_dc (own := [("name", 5)]) rfl sc_Net_init.nd (qi_list K (pe_callB (k_sortD rfl) rfl T.f_sorted bb_sorted (pa_cons (pv 2) pa_nil))) (blkOk_by (N := N_Net_init) (sc := defScope s_Net_init) (by decide +kernel)) (fun _ _ _ _ _ => (pg_name (i := 5) sc_Net_init.nd rfl (Or.inl rfl))) (fun _ _ _ _ _ => pts_nil) (fun _ _ _ _ _ => (pv 5)) (fun _ _ _ _ _ => (pe_dget hu (pv 2) (pv 5) (fun _ _ => rfl)))) rfl) ?_
  walk_at "w"
  refine w_sortD (smC _ _ hil) (by simp) ij_sorted fun l14 H14 hl14 s14 h14 => ?_
  walk_at "w"
  refine rdcV (walk_list (xs := IJ.map V.str)) IJ (fun k => .str (inl N k)) (by rw [List.length_map]) (by simp) (by decide +kernel) (fun H' s => sqL (s _ _ h14)) ?_ ?_
  · rintro i x _ H15 y hi hy s15 ⟨rfl, hx⟩ KT KF hKT
    obtain ⟨y', e1, rfl⟩ := map_get hx
    rw [hy] at e1; cases e1
    walk_at "w"
    refine ⟨rfl, ?_⟩
    walk_at "w"
    refine w_getK (s15 _ _ (s14 _ _ (smC _ _ hil))) (List.mem_of_getElem? hy) ?_
    exact hKT _ (Same.refl _)
  intro ix H15 hix s15 h15
  walk_at "w"
  have nb2 : b ≠ ix := fun z => by rw [← z, s14 _ _ hbC] at hix; cases hix
  refine w_sf (s15 _ _ (s14 _ _ hbC)) T.c_Net T.n_Net_inlets (by simp) ?_
  rw [putF_new ["knots"] rfl (by decide +kernel)]
  simp only [List.cons_append, List.nil_append]
  have smD : Same Hn (upd H15 b (.ins (He.ga K "Net") dx [("knots", .ref kx), ("inlets", .ref ix)])) := Same.mut (smC.trans (s14.trans s15)) hnb
  have hbD : (upd H15 b (.ins (He.ga K "Net") dx [("knots", .ref kx), ("inlets", .ref ix)])) b = some (.ins (He.ga K "Net") dx [("knots", .ref kx), ("inlets", .ref ix)]) := upd_same
  have hkD : (upd H15 b (.ins (He.ga K "Net") dx [("knots", .ref kx), ("inlets", .ref ix)])) kx = some (.dK (mapK N.names fun k => .ref (ka k))) := by rw [upd_ne nb1.symm]; exact s15 _ _ (s14 _ _ hkC)
  have hiD : (upd H15 b (.ins (He.ga K "Net") dx [("knots", .ref kx), ("inlets", .ref ix)])) ix = some (.dK (mapK IJ fun k => .str (inl N k))) := by rw [upd_ne nb2.symm]; exact h15
  generalize upd H15 b (.ins (He.ga K "Net") dx [("knots", .ref kx), ("inlets", .ref ix)]) = HD at *
  clear s14 h14 hl14 s15 h15 hbC hkC
  refine ssx_cons (qs_fld K (pv 0) (pe_callTy (q_tuple K) rfl T.f_tuple bt_tuple (pa_cons (pe_callB (q_sortS K) rfl T.f_sorted bb_sorted (pa_cons (pv 3) pa_nil)) pa_nil)) rfl) ?_
  walk_at "w"
  refine w_sortS (ks := PO) (xs := OP) (sqL (smD _ _ hol)) (by simp) (by decide +kernel) op_sorted fun l16 H16 hl16 s16 h16 => ?_
  walk_at "w"
  refine w_tupleL (sqL h16) fun tx H17 htx s17 h17 => ?_
  walk_at "w"
  have nb3 : b ≠ tx := fun z => by rw [← z, s16 _ _ hbD] at htx; cases htx
  refine w_sf (s17 _ _ (s16 _ _ hbD)) T.c_Net T.n_Net_outlets (by simp) ?_
  rw [putF_new ["knots", "inlets"] rfl (by decide +kernel)]
  simp only [List.cons_append, List.nil_append]
  have smE : Same Hn (upd H17 b (.ins (He.ga K "Net") dx [("knots", .ref kx), ("inlets", .ref ix), ("outlets", .ref tx)])) := Same.mut (smD.trans (s16.trans s17)) hnb
  have hbE : (upd H17 b (.ins (He.ga K "Net") dx [("knots", .ref kx), ("inlets", .ref ix), ("outlets", .ref tx)])) b = some (.ins (He.ga K "Net") dx [("knots", .ref kx), ("inlets", .ref ix), ("outlets", .ref tx)]) := upd_same
  have hkE : (upd H17 b (.ins (He.ga K "Net") dx [("knots", .ref kx), ("inlets", .ref ix), ("outlets", .ref tx)])) kx = some (.dK (mapK N.names fun k => .ref (ka k))) := by rw [upd_ne nb1.symm]; exact s17 _ _ (s16 _ _ hkD)
  have hiE : (upd H17 b (.ins (He.ga K "Net") dx [("knots", .ref kx), ("inlets", .ref ix), ("outlets", .ref tx)])) ix = some (.dK (mapK IJ fun k => .str (inl N k))) := by rw [upd_ne nb2.symm]; exact s17 _ _ (s16 _ _ hiD)
  have htE : (upd H17 b (.ins (He.ga K "Net") dx [("knots", .ref kx), ("inlets", .ref ix), ("outlets", .ref tx)])) tx = some (.tup (OP.map V.str)) := by rw [upd_ne nb3.symm]; exact h17
  generalize upd H17 b (.ins (He.ga K "Net") dx [("knots", .ref kx), ("inlets", .ref ix), ("outlets", .ref tx)]) = HE at *
  clear s16 h16 hl16 s17 h17 hbD hkD hiD
  refine ssx_cons (qs_fld K (pv 0) (pe_callTy (k_listD rfl) rfl T.f_list bt_list (pa_cons (q_fld K (pv 0) rfl) pa_nil)) rfl) ?_
  walk_at "w"
  refine w_rfld hbE T.c_Net T.n_Net_knots (by have h1 : (("knots" : Str) == "knots") = true := by decide +kernel
                                              simp [List.lookup, h1]; rfl) ?_
  walk_at "w"
  refine w_listD hkE fun lx H18 hlx s18 h18 => ?_
  walk_at "w"
  have nb4 : b ≠ lx := fun z => by rw [← z, hbE] at hlx; cases hlx
  refine w_sf (s18 _ _ hbE) T.c_Net T.n_Net_names (by simp) ?_
  rw [putF_new ["knots", "inlets", "outlets"] rfl (by decide +kernel)]
  simp only [List.cons_append, List.nil_append]
  have smF : Same Hn (upd H18 b (.ins (He.ga K "Net") dx [("knots", .ref kx), ("inlets", .ref ix), ("outlets", .ref tx), ("names", .ref lx)])) := Same.mut (smE.trans s18) hnb
  have hNF : NetOb K (upd H18 b (.ins (He.ga K "Net") dx [("knots", .ref kx), ("inlets", .ref ix), ("outlets", .ref tx), ("names", .ref lx)])) b N kx ix tx lx dx := ⟨upd_same, ⟨ka, by rw [upd_ne nb1.symm]; exact s18 _ _ hkE, fun k hk => (hkk k hk).same smF⟩, by rw [upd_ne nb2.symm]; exact s18 _ _ hiE, sqT (by rw [upd_ne nb3.symm]; exact s18 _ _ htE), by rw [upd_ne nb4.symm]; exact h18⟩
  generalize upd H18 b (.ins (He.ga K "Net") dx [("knots", .ref kx), ("inlets", .ref ix), ("outlets", .ref tx), ("names", .ref lx)]) = HF at *
  clear s18 h18 hlx hbE hkE hiE htE
  refine ssx_cons (ps_set (i := 7) sc_Net_init.nd rfl (Or.inl rfl) (pe_meth0F (pv 0) T.c_Net T.m_Net_met O_Net_met (hr.mono (by decide)) pass0)) ?_
  walk_at "w"
  refine w_nmeth hNF ?_
  walk_at "w"
  refine ⟨b, N, rfl, ⟨_, _, _, _, _, hNF⟩, hok, fun dm km HG sG hdm hG hall => ?_⟩
  walk_at "w"
  have hNG := hNF.same sG
  refine ssx_cons (ps_for PassesOwn.never rfl (qi_list K (q_fld K (pv 0) rfl)) (pg_name (i := 5) sc_Net_init.nd rfl (Or.inl rfl)) SSX.ps) ?_
  walk_at "w"
  refine w_nnames T hNG ?_
  refine w_itL (sqL hNG.nm) ?_
  refine for_txtL (xs := N.names) (fun i σ H9 => (∃ o5, σ = [some (.ref b), some (.ref kd), some (.ref id), some (.ref ol), some (.ref w4), o5, some (.ref kd7), some (.ref dm)]) ∧ H9 = HG) (fun i σ H9 h => by rw [h.2]; exact sqL hNG.nm) ⟨⟨_, rfl⟩, rfl⟩ ?_ ?_
  · rintro i y σ H9 hy ⟨⟨o5, rfl⟩, rfl⟩
    have hyn := List.mem_of_getElem? hy
    walk_at "w"
    refine ssx_cons (ps_if (pt_cmp (pc_dnotin hu (pv 5) (pv 7))) SSX.ps SSX.ps) ?_
    walk_at "w"
    refine w_notinK hG ?_
    refine w_bl ?_
    refine w_ndtrue (hall y hyn) ?_
    exact ssx_nil (ssx_nil ⟨⟨_, rfl⟩, rfl⟩)
  · rintro σ H9 ⟨⟨o5, rfl⟩, rfl⟩
    exact ssx_nil (k _ (smF.trans sG) ⟨_, _, _, _, _, hNG⟩)
end
end K1
namespace K1
open PySem PySem.Spec L2
open PyProof.Rows hiding St
local macro_rules | `(tactic| walk_at "hp") => `(tactic| first | assumption | exact upd_same | (refine' Same.to ?wse ?wsh; (case wse => assumption); (case wsh => walk_at "hp")) | ((rw [upd_ne (by first | assumption | (apply Ne.symm; assumption))]); walk_at "hp"))
local macro_rules | `(tactic| walk_at "sq") => `(tactic| first | assumption | exact sqL (by walk_at "hp") | exact sqT (by walk_at "hp") | (refine' Same.seqTo ?wse ?wsh; (case wse => assumption); (case wsh => walk_at "sq")) | (refine' Same.sqtTo ?wse ?wsh; (case wse => assumption); (case wsh => walk_at "sq")))
local macro_rules | `(tactic| walk_at "w1") => `(tactic| first
  | with_reducible refine w_asg ?_
  | with_reducible refine w_c ?_
  | with_reducible refine w_gname ?_
  | with_reducible refine w_if ?_
  | with_reducible refine w_ifs ?_
  | with_reducible refine w_test ?_
  | with_reducible refine w_tB ?_
  | with_reducible refine w_bl ?_
  | with_reducible refine w_op ?_
  | with_reducible refine w_nil ?_
  | with_reducible refine w_cons ?_
  | with_reducible refine w_cb ?_
  | with_reducible refine w_I0 ?_
  | with_reducible refine w_lst ?_
  | with_reducible refine w_tup ?_
  | with_reducible refine w_sl ?_
  | with_reducible refine w_noPart ?_
  | with_reducible refine w_part ?_
  | with_reducible refine w_int ?_
  | with_reducible refine w_par ?_
  | with_reducible refine w_two ?_
  | with_reducible refine w_par3 ?_
  | with_reducible refine w_three ?_
  | with_reducible refine w_ret ?_
  | with_reducible refine w_drop ?_
  | with_reducible refine w_chain ?_
  | with_reducible refine w_and ?_
  | with_reducible refine w_or ?_
  | with_reducible refine w_not ?_
  | with_reducible refine w_notV ?_
  | with_reducible refine w_andV ?_
  | with_reducible refine w_orV ?_
  | with_reducible refine w_int1 ?_
  | with_reducible refine w_true ?_
  | with_reducible refine w_false ?_
  | with_reducible refine w_for ?_
  | with_reducible refine w_rng1 ?_
  | with_reducible refine w_rng2 ?_
  | with_reducible refine w_iList ?_
  | with_reducible refine w_iTup ?_
  | with_reducible refine w_dget ?_
  | with_reducible refine w_din ?_
  | with_reducible refine w_dnotin ?_
  | with_reducible refine w_dput ?_
  | with_reducible refine w_dget2 ?_
  | with_reducible refine w_fld ?_
  | with_reducible refine w_dnew ?_
  | with_reducible refine w_lc ?_
  | with_reducible refine w_dc ?_
  | with_reducible refine w_iStr ?_
  | with_reducible refine w_str ?_
  | with_reducible refine w_iEnum ?_
  | with_reducible refine w_iZip ?_
  | with_reducible refine w_yes ?_
  | with_reducible refine w_gtup ?_
  | with_reducible refine w_gcons ?_
  | with_reducible refine w_rcons ?_
  | with_reducible refine w_gnil ?_
  | with_reducible refine w_leS ?_
  | with_reducible refine w_isN ?_
  | with_reducible refine w_notN ?_
  | with_reducible refine w_call ?_
  | with_reducible refine w_meth ?_
  | with_reducible refine w_bm ?_
  | with_reducible refine w_bm0 ?_
  | with_reducible refine isi_int ?_
  | with_reducible refine isi_bl_int ?_
  | with_reducible refine isi_int_bl ?_
  | with_reducible refine isi_bl ?_
  | with_reducible refine isi_str ?_
  | with_reducible refine isi_non_dict ?_
  | with_reducible refine isi_int_dict ?_
  | with_reducible refine w_ntrue ?_
  | with_reducible refine w_nfalse ?_
  | with_reducible refine w_wt ?_
  | with_reducible refine w_starD ?_
  | with_reducible refine w_starT ?_
  | with_reducible refine w_listVals ?_
  | with_reducible refine w_iEnumT ?_
  | with_reducible refine w_iEnumS ?_
  | with_reducible refine w_enumS ?_
  | with_reducible refine w_frz ?_
  | with_reducible refine w_iItems ?_
  | with_reducible refine w_iKeys ?_
  | with_reducible refine w_iVals ?_
  | with_reducible refine w_strS ?_
  | with_reducible refine w_daug ?_
  | with_reducible refine w_rAdd ?_
  | with_reducible refine w_sfld ?_
  | ((with_reducible refine' w_var ?wsd ?_); (case wsd => first | rfl | assumption))
  | ((with_reducible refine' w_eq ?wsd ?_); (case wsd => rfl))
  | ((with_reducible refine' w_ne ?wsd ?_); (case wsd => rfl))
  | ((with_reducible refine' w_lenL ?wsd ?_); (case wsd => walk_at "sq"))
  | ((with_reducible refine' w_lenT ?wsd ?_); (case wsd => walk_at "sq"))
  | ((with_reducible refine' w_itL ?wsd ?_); (case wsd => walk_at "sq"))
  | ((with_reducible refine' w_itT ?wsd ?_); (case wsd => walk_at "sq"))
  | ((with_reducible refine' w_rng1v ?wsd ?_); (case wsd => omega))
  | ((with_reducible refine' w_rng2v ?wsd ?_); (case wsd => omega))
  | ((with_reducible refine' w_I ?wsd ?_); (case wsd => walk_at "side"))
  | ((with_reducible refine' w_dtrue ?wsd ?_); (case wsd => first | assumption | omega | rfl | decide))
  | ((with_reducible refine' w_dfalse ?wsd ?_); (case wsd => first | assumption | omega | decide))
  | ((with_reducible refine' w_ndtrue ?wsd ?_); (case wsd => first | assumption | omega | rfl | decide))
  | ((with_reducible refine' w_ndfalse ?wsd ?_); (case wsd => first | assumption | omega | decide))
  | ((with_reducible refine' w_stD ?wsd ?_); (case wsd => walk_at "hp"))
  | ((with_reducible refine' w_stT ?wsd ?_); (case wsd => walk_at "sq"))
  | ((with_reducible refine' w_stL ?wsd ?_); (case wsd => walk_at "sq"))
  | ((with_reducible refine' w_isD ?wsd ?_); (case wsd => walk_at "hp"))
  | ((with_reducible refine' isi_tup ?wsd ?_); (case wsd => walk_at "sq"))
  | ((with_reducible refine' isi_dict ?wsd ?_); (case wsd => walk_at "hp"))
  | ((with_reducible refine' w_lenDv ?wsd ?_); (case wsd => walk_at "hp"))
  | ((with_reducible refine' w_enum ?wsd ?_); (case wsd => walk_at "sq"))
  | ((with_reducible refine' w_enumT ?wsd ?_); (case wsd => walk_at "sq"))
  | ((with_reducible refine' w_tyL ?wsd ?_); (case wsd => walk_at "sq")))
local macro_rules | `(tactic| walk_at "side") => `(tactic| first | omega | decide | (constructor <;> omega) | (constructor <;> decide) | (simp only [List.length_map, List.length_append, List.length_cons, List.length_nil, CDivN, CMul, CPow]; first | omega | decide | (constructor <;> omega)))
local macro_rules | `(tactic| walk_at "w") => `(tactic| repeat (walk_at "w1"))
def Scr (K : PySem.W.Frag) (H : Hp) (a : Addr) : Prop := ∃ ns : List Int, SqL K H a (ns.map V.int) ∧ ns.length ≤ 63
theorem Scr.same {K : PySem.W.Frag} {H H' : Hp} {a : Addr} (e : Same H H') (h : Scr K H a) : Scr K H' a := by
  obtain ⟨ns, h1, h2⟩ := h
  exact ⟨ns, e.seq h1, h2⟩
theorem draw_use {K : PySem.W.Frag} {H : Hp} {a : Addr} {p m : Int} {Q : VK} {E : XK} (h : Scr K H a) (h1 : 0 ≤ p ∧ p ≤ 100000) (h2 : 0 < m ∧ m ≤ 100000) (q : ∀ (r : Nat) H', (r : Int) < m → Same H H' → Q (.int r) H') : spDraw K [.ref a, .int p, .int m] H Q E := by
  obtain ⟨ns, s1, s2⟩ := h
  refine ⟨a, ns, p, m, rfl, s1, s2, h1.1, h1.2, h2.1, h2.2, fun r H' hr0 hr s => ?_⟩
  have := q r.toNat H' (by omega) s
  rw [Int.toNat_of_nonneg hr0] at this
  exact this
def spLawInlets (K : PySem.W.Frag) : Sp := fun vs H Q _ => ∃ (a d : Addr) (p : Int) (N : NetD), vs = [.ref a, .int p, .ref d] ∧ Scr K H a ∧ 0 ≤ p ∧ p ≤ 100000 ∧ KnotsAt K H d N ∧ N.Ok ∧ ∀ j r H', j ∈ N.names → Same H H' → H' r = some (.dK (mapK ["i", "j"] fun k => .str (if k = "i" then "a" else j))) → Q (.ref r) H'
def spLawDrop (K : PySem.W.Frag) : Sp := fun vs H Q _ => ∃ (d : Addr) (k : Str) (p : Nat) (N : NetD), vs = [.ref d, .str k, .int p] ∧ KnotsAt K H d N ∧ N.Ok ∧ k ∈ N.names ∧ p < N.len k ∧ ∀ t q H', Same H H' → H' t = some (.tup [.ref q, .int (N.nxt k p)]) → SqT K H' q ((N.dropAt k p).map V.str) → Q (.ref t) H'
def spLawWaiting (K : PySem.W.Frag) : Sp := fun vs H Q _ => ∃ (i d : Addr) (N : NetD) (ks : List Str) (bl : Str → Nat), vs = [.ref i, .ref d] ∧ H i = some (.dK (mapK ["i", "j"] fun k => .str (inl N k))) ∧ BlAt H d N ks bl ∧ N.Ok ∧ ks.Nodup ∧
  ∀ r ws H', Same H H' → H r = none → H' r = some (DI ws fun k => (bsum N bl ks k : Int)) → Zr ws (fun k => (bsum N bl ks k : Int)) → ws.Nodup → (∀ k ∈ ws, k ∈ N.names) → Q (.ref r) H'
def spLawFalls (K : PySem.W.Frag) : Sp := fun vs H Q _ => ∃ (d : Addr) (k : Str) (N : NetD), vs = [.ref d, .str k] ∧ KnotsAt K H d N ∧ N.Ok ∧ k ∈ N.names ∧ ∀ r ks f H', Same H H' → H r = none → H' r = some (DI ks f) → Zr ks f → (∀ x, f x = (NetD.cr x (N.tn k) : Int)) → Q (.ref r) H'
abbrev N_law_inlets : List Str := ["_law_script", "_law_at", "_law_knots_here"]
theorem sc_law_inlets : FnScope N_law_inlets ["_law_script", "_law_at", "_law_knots_here"] (defScope s_law_inlets) := ⟨rfl, rfl, rfl, by decide +kernel, rfl, by decide +kernel, by decide +kernel⟩
abbrev N_law_drop : List Str := ["_law_knots_here", "_law_name", "_law_place", "_law_rows"]
theorem sc_law_drop : FnScope N_law_drop ["_law_knots_here", "_law_name", "_law_place"] (defScope s_law_drop) := ⟨rfl, rfl, rfl, by decide +kernel, rfl, by decide +kernel, by decide +kernel⟩
abbrev N_law_waiting : List Str := ["_law_inlets_here", "_law_balls", "_law_found", "_law_name", "_law_many", "_law_knot"]
theorem sc_law_waiting : FnScope N_law_waiting ["_law_inlets_here", "_law_balls"] (defScope s_law_waiting) := ⟨rfl, rfl, rfl, by decide +kernel, rfl, by decide +kernel, by decide +kernel⟩
abbrev N_law_falls : List Str := ["_law_knots_here", "_law_name", "_law_found", "_law_drop_here", "_law_target"]
theorem sc_law_falls : FnScope N_law_falls ["_law_knots_here", "_law_name"] (defScope s_law_falls) := ⟨rfl, rfl, rfl, by decide +kernel, rfl, by decide +kernel, by decide +kernel⟩
section
variable {P : Program} {w : World} {K : PySem.W.Frag} {mg : Str → Option Value} {base : Heap}
theorem ok_draw (T : TX K mg) : Fok P w K mg base CX0 1 (He.ga K "_law_draw") ["_law_script", "_law_at", "_law_many"] [] (spDraw K) := by
  obtain ⟨fd, F⟩ := T.fn_law_draw
  exact ⟨⟨fd, [], ok_law_draw T F, F.bindsN fun _ _ _ _ _ _ us hl => match us, hl with | [_, _, _], _ => rfl, .nil⟩, F.kp⟩
theorem ok_law_inlets (T : TX K mg) : Fok P w K mg base CX0 2 (He.ga K "_law_inlets") ["_law_script", "_law_at", "_law_knots_here"] [] (spLawInlets K) := by
  obtain ⟨fd, F⟩ := T.fn_law_inlets
  refine ⟨⟨fd, [], ?_, F.bindsN fun _ _ _ _ _ _ us hl => match us, hl with | [_, _, _], _ => rfl, .nil⟩, F.kp⟩
  refine F.ok sc_law_inlets (fun vs H Q E h => ?_) (fun cdv A outer s H vs Q E hr h => ?_)
  · obtain ⟨_, _, _, _, rfl, _⟩ := h
    rfl
  obtain ⟨a, d, p, N, rfl, hS, hp1, hp2, hkn, hok, k⟩ := h
  have hu := hu_of hr
  have O_law_draw := @ok_draw P w K mg base T
  have hln := hok.len
  obtain ⟨ka, hka, _⟩ := hkn
  refine ssx_nox ?_
  refine ssx_cons (ps_ret (pe_disp (pps_cons pe_str pe_str (pps_cons pe_str (pe_ix (q_ixL K) (pe_callB (q_sortS K) rfl T.f_sorted bb_sorted (pa_cons (pe_callTy (k_listD rfl) rfl T.f_list bt_list (pa_cons (pv 2) pa_nil)) pa_nil)) (pe_callF O_law_draw (hr.mono (by decide)) rfl T.g__law_draw pass0 (pa_cons (pv 0) (pa_cons (pv 1) (pa_cons (pe_callB k_lenD rfl T.f_len bb_len (pa_cons (pv 2) pa_nil)) pa_nil)))) (fun _ _ => rfl)) pps_nil)) rfl rfl (fun z => by cases z) (by decide))) ?_
  walk_at "w"
  intro r hr0
  have s1 : Same H (upd H r (.dK [])) := Same.alloc hr0
  have h1 : (upd H r (.dK [])) r = some (.dK []) := upd_same
  generalize upd H r (.dK []) = H1 at *
  refine w_c (w_c ?_)
  refine w_c ?_
  walk_at "w"
  refine w_listD (s1 _ _ hka) fun l H2 hl s2 h2 => ?_
  walk_at "w"
  refine w_sortS (ks := N.names) (xs := N.names) (sqL h2) (by omega) (List.Perm.refl _) (names_sorted hok) fun l3 H3 hl3 s3 h3 => ?_
  walk_at "w"
  rw [mapK_len]
  refine draw_use (hS.same ((s1.trans s2).trans s3)) ⟨hp1, hp2⟩ ⟨by omega, by omega⟩ fun i H4 hi s4 => ?_
  have hi' : i < N.names.length := by omega
  refine w_ixL (v := .str (N.names[i]'hi')) (sqL (s4 _ _ h3)) (atI_nat (by rw [List.getElem?_map, List.getElem?_eq_getElem hi']; rfl)) ?_
  have s14 := (s2.trans s3).trans s4
  refine ⟨s14 _ _ h1, [((Sum.inr ("i" : Str) : Key), V.str "a"), (Sum.inr ("j" : Str), V.str (N.names[i]'hi'))], rfl, by simp, ?_⟩
  refine k (N.names[i]'hi') r _ (List.getElem_mem hi') (Same.mut (s1.trans s14) hr0) ?_
  rw [upd_same]
  have e : [((Sum.inr ("i" : Str) : Key), V.str "a"), (Sum.inr ("j" : Str), V.str (N.names[i]'hi'))] = mapK ["i", "j"] fun k => V.str (if k = "i" then "a" else N.names[i]'hi') := by
    have hj : ¬ (("j" : Str) = "i") := by decide +kernel
    simp [mapK, hj]
  rw [e, merge_new _ _ (by decide +kernel)]
theorem ok_law_drop (T : TX K mg) : Fok P w K mg base CX0 1 (He.ga K "_law_drop") ["_law_knots_here", "_law_name", "_law_place"] [] (spLawDrop K) := by
  obtain ⟨fd, F⟩ := T.fn_law_drop
  refine ⟨⟨fd, [], ?_, F.bindsN fun _ _ _ _ _ _ us hl => match us, hl with | [_, _, _], _ => rfl, .nil⟩, F.kp⟩
  refine F.ok sc_law_drop (fun vs H Q E h => ?_) (fun cdv A outer s H vs Q E hr h => ?_)
  · obtain ⟨_, _, _, _, rfl, _⟩ := h
    rfl
  obtain ⟨d, kn, p, N, rfl, hkn, hok, hk, hp, k⟩ := h
  have hu := hu_of hr
  obtain ⟨kv, f, t, k1, k2, ⟨fs, f1, f2⟩, ⟨ds, t1, t2⟩⟩ := NetAt.knot hkn hk
  have hfs := paired_len f2
  have hds := paired_len t2
  have hfl := hok.fl kn hk
  have htl := hok.tl kn hk
  have hlen : N.len kn = (N.fr kn).length + (N.tn kn).length := by unfold NetD.len NetD.rows; rw [List.length_append]
  have hP : Paired (fun d dr => SqT K H d (dr.map V.str)) (fs ++ ds) (N.rows kn) := paired_app f2 t2
  refine ssx_nox ?_
  refine ssx_cons (ps_set (i := 3) sc_law_drop.nd rfl (Or.inl rfl) (pe_op op_cat (pe_callTy (q_list K) rfl T.f_list bt_list (pa_cons (pe_ix (q_ixT K) (pe_dget hu (pv 0) (pv 1) (fun _ _ => rfl)) pe_int (fun _ _ => rfl)) pa_nil)) (pe_callTy (q_list K) rfl T.f_list bt_list (pa_cons (pe_ix (q_ixT K) (pe_dget hu (pv 0) (pv 1) (fun _ _ => rfl)) pe_int (fun _ _ => rfl)) pa_nil)))) ?_
  walk_at "w"
  refine w_getK k1 hk ?_
  walk_at "w"
  refine w_ixT (v := .ref f) k2 rfl ?_
  walk_at "w"
  refine w_listT f1 fun l1 H1 hl1 s1 h1 => ?_
  walk_at "w"
  refine w_getK (s1 _ _ k1) hk ?_
  walk_at "w"
  refine w_ixT (v := .ref t) (Same.sqt s1 k2) rfl ?_
  walk_at "w"
  refine w_listT (Same.sqt s1 t1) fun l2 H2 hl2 s2 h2 => ?_
  refine ⟨l1, l2, _, _, rfl, rfl, s2 _ _ h1, h2, sz (by simp only [List.length_map]; omega), fun l3 hl3 => ?_⟩
  have s3 : Same H2 (upd H2 l3 (.lst (fs.map V.ref ++ ds.map V.ref))) := Same.alloc hl3
  have h3 : (upd H2 l3 (.lst (fs.map V.ref ++ ds.map V.ref))) l3 = some (.lst ((fs ++ ds).map V.ref)) := by rw [upd_same, List.map_append]
  generalize upd H2 l3 (.lst (fs.map V.ref ++ ds.map V.ref)) = H3 at *
  have s03 := (s1.trans s2).trans s3
  walk_at "w"
  have hpr : p < (N.rows kn).length := hp
  have hrow : (N.rows kn)[p]? = some ((N.rows kn)[p]'hpr) := List.getElem?_eq_getElem _
  obtain ⟨q, q1, q2⟩ := paired_get hP hrow
  have hdr : N.dropAt kn p = (N.rows kn)[p]'hpr := by unfold NetD.dropAt; rw [List.getD_eq_getElem?_getD, hrow]; rfl
  refine ssx_cons (ps_ret (pe_tup (pa_cons (pe_ix (q_ixL K) (pv 3) (pv 2) (fun _ _ => rfl)) (pa_cons (pe_ifExp (pt_cmpR op_lt (pe_op op_add (pv 2) pe_int) (pe_callB (q_len K) rfl T.f_len bb_len (pa_cons (pv 3) pa_nil)) (nomark _)) (pe_op op_add (pv 2) pe_int) (pe_callB (q_len K) rfl T.f_len bb_len (pa_cons (pe_ix (q_ixT K) (pe_dget hu (pv 0) (pv 1) (fun _ _ => rfl)) pe_int (fun _ _ => rfl)) pa_nil))) pa_nil)))) ?_
  walk_at "w"
  refine w_ixL (v := .ref q) (sqL h3) (atI_nat (by rw [List.getElem?_map, q1]; rfl)) ?_
  walk_at "w"
  have hll : ((fs ++ ds).map V.ref).length = N.len kn := by rw [List.length_map, List.length_append]; omega
  rw [hll]
  refine w_dcases (fun hlt => ?_) fun hlt => ?_
  · walk_at "w"
    refine w_newT (by simp) fun tp H4 htp s4 h4 => ?_
    refine k tp q H4 (s03.trans s4) ?_ (by rw [hdr]; exact Same.sqt (s03.trans s4) q2)
    rw [h4]
    unfold NetD.nxt
    rw [if_pos (by omega)]
    rfl
  · walk_at "w"
    refine w_getK (s03 _ _ k1) hk ?_
    walk_at "w"
    refine w_ixT (v := .ref f) (Same.sqt s03 k2) rfl ?_
    walk_at "w"
    refine w_newT (by simp) fun tp H4 htp s4 h4 => ?_
    refine k tp q H4 (s03.trans s4) ?_ (by rw [hdr]; exact Same.sqt (s03.trans s4) q2)
    rw [h4]
    unfold NetD.nxt
    rw [if_neg (by omega), List.length_map, hfs]
theorem ok_law_waiting (T : TX K mg) : Fok P w K mg base CX0 1 (He.ga K "_law_waiting") ["_law_inlets_here", "_law_balls"] [] (spLawWaiting K) := by
  obtain ⟨fd, F⟩ := T.fn_law_waiting
  refine ⟨⟨fd, [], ?_, F.bindsN fun _ _ _ _ _ _ us hl => match us, hl with | [_, _], _ => rfl, .nil⟩, F.kp⟩
  refine F.ok sc_law_waiting (fun vs H Q E h => ?_) (fun cdv A outer s H vs Q E hr h => ?_)
  · obtain ⟨_, _, _, _, _, rfl, _⟩ := h
    rfl
  obtain ⟨i, d, N, ks, bl, rfl, hi, ⟨hd, hkl, hkb⟩, hok, hknd, k⟩ := h
  have hu := hu_of hr
  have hln := hok.len
  refine ssx_nox ?_
  refine ssx_cons (ps_set (i := 2) sc_law_waiting.nd rfl (Or.inl rfl) pe_dnewK) ?_
  walk_at "w"
  refine w_new fun r H1 hr0 s1 h1 => ?_
  walk_at "w"
  have hd1 := s1 _ _ hd
  have hi1 := s1 _ _ hi
  refine ssx_cons (ps_lock (ps_for PassesOwn.never rfl (pi_items (pv 1)) (qg_tup (n := 2) K rfl (pgs_cons (pg_name (i := 3) sc_law_waiting.nd rfl (Or.inl rfl)) (pgs_cons (pg_name (i := 4) sc_law_waiting.nd rfl (Or.inl rfl)) pgs_nil))) SSX.ps)) ?_
  refine w_lock hd1 fun od => ?_
  walk_at "w"
  refine w_itm frz_at ?_
  have hrd : r ≠ d := fun z => by rw [z, hd] at hr0; cases hr0
  have hid : i ≠ d := fun z => by
    rw [z, hd] at hi
    have e := HO.dK.inj (Option.some.inj hi)
    cases ks with
    | nil => simp [mapK] at e
    | cons a l => simp [mapK] at e
  have hL0 : (upd H1 d (.frz od (DI ks fun k => (bl k : Int)))) i = some (.dK (mapK ["i", "j"] fun k => .str (inl N k))) := by rw [upd_ne hid]; exact hi1
  refine for_walk walk_its (fun j σ H2 => ∃ (ws : List Str) (g : Str → Int) (o3 o4 o5 : Option V), σ = [some (.ref i), some (.ref d), some (.ref r), o3, o4, o5] ∧ H2 d = some (.frz od (DI ks fun k => (bl k : Int))) ∧ Same H (upd H2 d (DI ks fun k => (bl k : Int))) ∧ H2 i = some (.dK (mapK ["i", "j"] fun k => .str (inl N k))) ∧ H2 r = some (DI ws g) ∧
    Zr ws g ∧ ws.Nodup ∧ (∀ k ∈ ws, k ∈ N.names) ∧ ∀ x, g x = (bsum N bl (ks.take j) x : Int)) ?_ ?_ ?_ ?_
  · refine ⟨[], fun _ => 0, _, _, _, rfl, frz_at, ?_, hL0, by rw [upd_ne hrd]; exact h1, fun _ _ => rfl, .nil, by simp, fun x => rfl⟩
    intro b o e
    by_cases z : b = d
    · subst z; rw [upd_same]; rw [hd] at e; exact e
    · rw [upd_ne z, upd_ne z]; exact s1 _ _ e
  · rintro j σ H2 _ ⟨_, _, _, _, _, _, h, _⟩
    exact h
  · rintro j x σ H2 _ hj ⟨ws, g, o3, o4, o5, rfl, h2d, s2, h2i, h2r, hz, hnd, hwn, hg⟩ ⟨T2, y, rfl, hT2, rfl, hy⟩
    have hyk := hkb y (List.mem_of_getElem? hy)
    refine g_pair ?_
    have hTd : T2 ≠ d := fun z => by rw [z, h2d] at hT2; cases hT2
    have hTr : T2 ≠ r := fun z => by rw [z, h2r] at hT2; cases hT2
    have hTi : T2 ≠ i := fun z => by rw [z, h2i] at hT2; cases hT2
    have s3 : Same H (upd (upd H2 T2 (.tup [.str y, .int (bl y : Int)])) d (DI ks fun k => (bl k : Int))) := by
      intro b o e
      have := s2 _ _ e
      by_cases z : b = d
      · subst z; rw [upd_same] at this ⊢; exact this
      · rw [upd_ne z] at this ⊢
        rw [upd_ne (fun q => by rw [q, hT2] at this; cases this)]; exact this
    have h3d : (upd H2 T2 (.tup [.str y, .int (bl y : Int)])) d = some (.frz od (DI ks fun k => (bl k : Int))) := by rw [upd_ne hTd.symm]; exact h2d
    have h3r : (upd H2 T2 (.tup [.str y, .int (bl y : Int)])) r = some (DI ws g) := by rw [upd_ne hTr.symm]; exact h2r
    have h3i : (upd H2 T2 (.tup [.str y, .int (bl y : Int)])) i = some (.dK (mapK ["i", "j"] fun k => .str (inl N k))) := by rw [upd_ne hTi.symm]; exact h2i
    generalize upd H2 T2 (.tup [.str y, .int (bl y : Int)]) = H3 at *
    refine ssx_cons (ps_set (i := 5) sc_law_waiting.nd rfl (Or.inl rfl) (pe_dget2 hu (pv 0) (pv 3) (pv 3) ⟨rfl, rfl, rfl, rfl⟩)) ?_
    walk_at "w"
    refine w_getO h3i ?_
    have ekn : (if y ∈ (["i", "j"] : List Str) then V.str (inl N y) else .str y) = .str (kn N y) := by
      unfold kn
      by_cases z : y = "i" ∨ y = "j"
      · rw [if_pos (ij_mem.mpr z), if_pos z]
      · rw [if_neg (fun q => z (ij_mem.mp q)), if_neg z]
    rw [ekn]
    walk_at "w"
    have hwl : ws.length ≤ 4 := Nat.le_trans (List.Nodup.length_le_of_subset hnd hwn) hln.2
    refine ssx_cons (ps_dput hu (pv 2) (pv 5) (pe_op op_add (pe_dget2 hu (pv 2) (pv 5) pe_int ⟨rfl, rfl, rfl, rfl⟩) (pv 4)) rfl) ?_
    walk_at "w"
    refine w_getOI h3r hz ?_
    walk_at "w"
    refine w_putI h3r (by omega) ?_
    have hri : r ≠ i := fun z => by rw [z, hi] at hr0; cases hr0
    refine ssx_nil ⟨_, _, _, _, _, rfl, by rw [upd_ne hrd.symm]; exact h3d, ?_, by rw [upd_ne hri.symm]; exact h3i, upd_same, hz.put _ _, ins_nodup hnd, fun x hx => ?_, fun x => ?_⟩
    · intro b o e
      have := s3 _ _ e
      by_cases z : b = d
      · subst z; rw [upd_same] at this ⊢; exact this
      · rw [upd_ne z] at this ⊢
        rw [upd_ne (ne_of_none e hr0)]; exact this
    · rcases ins_mem.mp hx with z | z
      · exact hwn x z
      · rw [z]; exact kn_in hok hyk.2
    · rw [take_snoc hy, show bsum N bl (ks.take j ++ [y]) x = bsum N bl (ks.take j) x + (if kn N y = x then bl y else 0) from sm_snoc _ _ _, up_kn rfl, hg]
      show (bsum N bl (ks.take j) x : Int) + (if kn N y = x then (bl y : Int) else 0) = _
      split <;> omega
  · rintro σ H2 ⟨ws, g, o3, o4, o5, rfl, h2d, s2, h2i, h2r, hz, hnd, hwn, hg⟩
    rw [List.take_length] at hg
    refine ⟨h2d, ?_⟩
    have h4 : (upd H2 d (DI ks fun k => (bl k : Int))) r = some (DI ws g) := by rw [upd_ne hrd]; exact h2r
    have eg : g = fun x => (bsum N bl ks x : Int) := funext hg
    subst eg
    refine ssx_cons (ps_ret (pv 2)) ?_
    walk_at "w"
    exact k r ws _ s2 hr0 h4 hz hnd hwn
theorem ok_law_falls (T : TX K mg) : Fok P w K mg base CX0 1 (He.ga K "_law_falls") ["_law_knots_here", "_law_name"] [] (spLawFalls K) := by
  obtain ⟨fd, F⟩ := T.fn_law_falls
  refine ⟨⟨fd, [], ?_, F.bindsN fun _ _ _ _ _ _ us hl => match us, hl with | [_, _], _ => rfl, .nil⟩, F.kp⟩
  refine F.ok sc_law_falls (fun vs H Q E h => ?_) (fun cdv A outer s H vs Q E hr h => ?_)
  · obtain ⟨_, _, _, rfl, _⟩ := h
    rfl
  obtain ⟨p, kn, N, rfl, hkn, hok, hk, k⟩ := h
  have hu := hu_of hr
  refine ssx_nox ?_
  refine ssx_cons (ps_set (i := 2) sc_law_falls.nd rfl (Or.inl rfl) pe_dnewK) ?_
  walk_at "w"
  refine w_new fun d H1 hd s1 h1 => ?_
  walk_at "w"
  obtain ⟨kv, f, t, k1, k2, k3, k4⟩ := NetAt.knot hkn hk
  obtain ⟨xs, k5, _⟩ := k4.sq
  have htl := hok.tl kn hk
  refine ssx_cons (ps_for PassesOwn.never rfl (qi_tup K (pe_ix (q_ixT K) (pe_dget hu (pv 0) (pv 1) (fun _ _ => rfl)) pe_int (fun _ _ => rfl))) (pg_name (i := 3) sc_law_falls.nd rfl (Or.inl rfl)) SSX.ps) ?_
  walk_at "w"
  refine w_getK (s1 _ _ k1) hk ?_
  walk_at "w"
  refine w_ixT (v := .ref t) (Same.sqt s1 k2) rfl ?_
  refine w_itT (Same.sqt s1 k5) ?_
  refine for_row (fun i σ H2 => ∃ ks g o3 o4, σ = [some (.ref p), some (.str kn), some (.ref d), o3, o4] ∧ Same H H2 ∧ H2 d = some (DI ks g) ∧ Zr ks g ∧ (∀ x, g x = (NetD.cr x ((N.tn kn).take i) : Int)) ∧ ks.length ≤ 2 * i) k4 ?_ ?_ ?_ ?_
  · rintro i σ H2 ⟨_, _, _, _, _, s2, _⟩
    exact s2
  · exact ⟨[], fun _ => 0, _, _, rfl, s1, h1, fun _ _ => rfl, fun x => rfl, by simp⟩
  · rintro i q dr σ H2 hdr hq ⟨ks, g, o3, o4, rfl, s2, h2, hz, hg, hl⟩
    walk_at "w"
    obtain ⟨hi, _⟩ := List.getElem?_eq_some_iff.mp hdr
    have hdl := (hok.dr kn hk dr (List.mem_append.mpr (.inr (List.mem_of_getElem? hdr)))).1
    refine ssx_cons (ps_for PassesOwn.never rfl (qi_tup K (pv 3)) (pg_name (i := 4) sc_law_falls.nd rfl (Or.inl rfl)) SSX.ps) ?_
    walk_at "w"
    refine for_txt (xs := dr) (fun j σ H3 => ∃ ks g o4, σ = [some (.ref p), some (.str kn), some (.ref d), some (.ref q), o4] ∧ Same H H3 ∧ SqT K H3 q (dr.map V.str) ∧ H3 d = some (DI ks g) ∧ Zr ks g ∧ (∀ x, g x = (NetD.cr x ((N.tn kn).take i) : Int) + ((dr.take j).count x : Int)) ∧ ks.length ≤ 2 * i + j) ?_ ?_ ?_ ?_
    · rintro j σ H3 ⟨_, _, _, _, _, hq3, _⟩
      exact hq3
    · exact ⟨ks, g, _, rfl, s2, hq, h2, hz, fun x => by rw [hg]; simp, by omega⟩
    · rintro j y σ H3 hy ⟨ks, g, o4, rfl, s3, hq3, h3, hz, hg, hl⟩
      obtain ⟨hj, _⟩ := List.getElem?_eq_some_iff.mp hy
      walk_at "w"
      refine ssx_cons (ps_dput hu (pv 2) (pv 4) (pe_op op_add (pe_dget2 hu (pv 2) (pv 4) pe_int ⟨rfl, rfl, rfl, rfl⟩) pe_int) rfl) ?_
      walk_at "w"
      refine w_getOI h3 hz ?_
      walk_at "w"
      refine w_putI h3 (by omega) ?_
      refine ssx_nil ⟨_, _, _, rfl, Same.mut s3 hd, sqT_upd hq3 h3, upd_same, hz.put _ _, fun x => ?_, by have := @ins_len ks y; omega⟩
      rw [take_snoc hy, List.count_append]
      by_cases e : x = y
      · subst e; rw [show up g x (g x + 1) x = g x + 1 from NetD.up_same, hg]; simp; omega
      · rw [show up g y (g y + 1) x = g x from NetD.up_ne e, hg]; simp [List.count_singleton, Ne.symm e]
    · rintro σ H3 ⟨ks, g, o4, rfl, s3, hq3, h3, hz, hg, hl⟩
      refine ssx_nil ⟨ks, g, _, _, rfl, s3, h3, hz, fun x => ?_, by omega⟩
      rw [hg, take_snoc hdr, NetD.cr_append, List.take_length]
      simp [NetD.cr]
  · rintro σ H2 ⟨ks, g, o3, o4, rfl, s2, h2, hz, hg, hl⟩
    refine ssx_cons (ps_ret (pv 2)) ?_
    walk_at "w"
    rw [List.take_length] at hg
    exact k d ks g H2 s2 hd h2 hz hg
end
end K1
namespace K1
open PySem PySem.Spec L2
open PyProof.Rows hiding St
local macro_rules | `(tactic| walk_at "hp") => `(tactic| first | assumption | exact upd_same | (refine' Same.to ?wse ?wsh; (case wse => assumption); (case wsh => walk_at "hp")) | ((rw [upd_ne (by first | assumption | (apply Ne.symm; assumption))]); walk_at "hp"))
local macro_rules | `(tactic| walk_at "sq") => `(tactic| first | assumption | exact sqL (by walk_at "hp") | exact sqT (by walk_at "hp") | (refine' Same.seqTo ?wse ?wsh; (case wse => assumption); (case wsh => walk_at "sq")) | (refine' Same.sqtTo ?wse ?wsh; (case wse => assumption); (case wsh => walk_at "sq")))
local macro_rules | `(tactic| walk_at "w1") => `(tactic| first
  | with_reducible refine w_asg ?_
  | with_reducible refine w_c ?_
  | with_reducible refine w_gname ?_
  | with_reducible refine w_if ?_
  | with_reducible refine w_ifs ?_
  | with_reducible refine w_test ?_
  | with_reducible refine w_tB ?_
  | with_reducible refine w_bl ?_
  | with_reducible refine w_op ?_
  | with_reducible refine w_nil ?_
  | with_reducible refine w_cons ?_
  | with_reducible refine w_cb ?_
  | with_reducible refine w_I0 ?_
  | with_reducible refine w_lst ?_
  | with_reducible refine w_tup ?_
  | with_reducible refine w_sl ?_
  | with_reducible refine w_noPart ?_
  | with_reducible refine w_part ?_
  | with_reducible refine w_int ?_
  | with_reducible refine w_par ?_
  | with_reducible refine w_two ?_
  | with_reducible refine w_par3 ?_
  | with_reducible refine w_three ?_
  | with_reducible refine w_ret ?_
  | with_reducible refine w_drop ?_
  | with_reducible refine w_chain ?_
  | with_reducible refine w_and ?_
  | with_reducible refine w_or ?_
  | with_reducible refine w_not ?_
  | with_reducible refine w_notV ?_
  | with_reducible refine w_andV ?_
  | with_reducible refine w_orV ?_
  | with_reducible refine w_int1 ?_
  | with_reducible refine w_true ?_
  | with_reducible refine w_false ?_
  | with_reducible refine w_for ?_
  | with_reducible refine w_rng1 ?_
  | with_reducible refine w_rng2 ?_
  | with_reducible refine w_iList ?_
  | with_reducible refine w_iTup ?_
  | with_reducible refine w_dget ?_
  | with_reducible refine w_din ?_
  | with_reducible refine w_dnotin ?_
  | with_reducible refine w_dput ?_
  | with_reducible refine w_dget2 ?_
  | with_reducible refine w_fld ?_
  | with_reducible refine w_dnew ?_
  | with_reducible refine w_lc ?_
  | with_reducible refine w_dc ?_
  | with_reducible refine w_iStr ?_
  | with_reducible refine w_str ?_
  | with_reducible refine w_iEnum ?_
  | with_reducible refine w_iZip ?_
  | with_reducible refine w_yes ?_
  | with_reducible refine w_gtup ?_
  | with_reducible refine w_gcons ?_
  | with_reducible refine w_rcons ?_
  | with_reducible refine w_gnil ?_
  | with_reducible refine w_leS ?_
  | with_reducible refine w_isN ?_
  | with_reducible refine w_notN ?_
  | with_reducible refine w_call ?_
  | with_reducible refine w_meth ?_
  | with_reducible refine w_bm ?_
  | with_reducible refine w_bm0 ?_
  | with_reducible refine isi_int ?_
  | with_reducible refine isi_bl_int ?_
  | with_reducible refine isi_int_bl ?_
  | with_reducible refine isi_bl ?_
  | with_reducible refine isi_str ?_
  | with_reducible refine isi_non_dict ?_
  | with_reducible refine isi_int_dict ?_
  | with_reducible refine w_ntrue ?_
  | with_reducible refine w_nfalse ?_
  | with_reducible refine w_wt ?_
  | with_reducible refine w_starD ?_
  | with_reducible refine w_starT ?_
  | with_reducible refine w_listVals ?_
  | with_reducible refine w_iEnumT ?_
  | with_reducible refine w_iEnumS ?_
  | with_reducible refine w_enumS ?_
  | with_reducible refine w_frz ?_
  | with_reducible refine w_iItems ?_
  | with_reducible refine w_iKeys ?_
  | with_reducible refine w_iVals ?_
  | with_reducible refine w_strS ?_
  | with_reducible refine w_daug ?_
  | with_reducible refine w_rAdd ?_
  | with_reducible refine w_sfld ?_
  | ((with_reducible refine' w_var ?wsd ?_); (case wsd => first | rfl | assumption))
  | ((with_reducible refine' w_eq ?wsd ?_); (case wsd => rfl))
  | ((with_reducible refine' w_ne ?wsd ?_); (case wsd => rfl))
  | ((with_reducible refine' w_lenL ?wsd ?_); (case wsd => walk_at "sq"))
  | ((with_reducible refine' w_lenT ?wsd ?_); (case wsd => walk_at "sq"))
  | ((with_reducible refine' w_itL ?wsd ?_); (case wsd => walk_at "sq"))
  | ((with_reducible refine' w_itT ?wsd ?_); (case wsd => walk_at "sq"))
  | ((with_reducible refine' w_rng1v ?wsd ?_); (case wsd => omega))
  | ((with_reducible refine' w_rng2v ?wsd ?_); (case wsd => omega))
  | ((with_reducible refine' w_I ?wsd ?_); (case wsd => walk_at "side"))
  | ((with_reducible refine' w_dtrue ?wsd ?_); (case wsd => first | assumption | omega | rfl | decide))
  | ((with_reducible refine' w_dfalse ?wsd ?_); (case wsd => first | assumption | omega | decide))
  | ((with_reducible refine' w_ndtrue ?wsd ?_); (case wsd => first | assumption | omega | rfl | decide))
  | ((with_reducible refine' w_ndfalse ?wsd ?_); (case wsd => first | assumption | omega | decide))
  | ((with_reducible refine' w_stD ?wsd ?_); (case wsd => walk_at "hp"))
  | ((with_reducible refine' w_stT ?wsd ?_); (case wsd => walk_at "sq"))
  | ((with_reducible refine' w_stL ?wsd ?_); (case wsd => walk_at "sq"))
  | ((with_reducible refine' w_isD ?wsd ?_); (case wsd => walk_at "hp"))
  | ((with_reducible refine' isi_tup ?wsd ?_); (case wsd => walk_at "sq"))
  | ((with_reducible refine' isi_dict ?wsd ?_); (case wsd => walk_at "hp"))
  | ((with_reducible refine' w_lenDv ?wsd ?_); (case wsd => walk_at "hp"))
  | ((with_reducible refine' w_enum ?wsd ?_); (case wsd => walk_at "sq"))
  | ((with_reducible refine' w_enumT ?wsd ?_); (case wsd => walk_at "sq"))
  | ((with_reducible refine' w_tyL ?wsd ?_); (case wsd => walk_at "sq")))
local macro_rules | `(tactic| walk_at "side") => `(tactic| first | omega | decide | (constructor <;> omega) | (constructor <;> decide) | (simp only [List.length_map, List.length_append, List.length_cons, List.length_nil, CDivN, CMul, CPow]; first | omega | decide | (constructor <;> omega)))
local macro_rules | `(tactic| walk_at "w") => `(tactic| repeat (walk_at "w1"))
def spLawMatrix (K : PySem.W.Frag) : Sp := fun vs H Q _ => ∃ (d : Addr) (N : NetD), vs = [.ref d] ∧ KnotsAt K H d N ∧ N.Ok ∧ ∀ l H', Same H H' → MatAt K H' l (mtx N) → Q (.ref l) H'
abbrev N_law_matrix : List Str := ["_law_knots_here", "_law_names", "_law_name", "_law_other"]
theorem sc_law_matrix : FnScope N_law_matrix ["_law_knots_here"] (defScope s_law_matrix) := ⟨rfl, rfl, rfl, by decide +kernel, rfl, by decide +kernel, by decide +kernel⟩
theorem rows_other {H2 H3 : Hp} {D : Addr} (hk : ∀ b o, b ≠ D → H2 b = some o → H3 b = some o) {xs : List Addr} {ys : List (List Int)} (h : Paired (fun r row => H2 r = some (.lst (row.map V.int))) xs ys) (hd : D ∉ xs) : Paired (fun r row => H3 r = some (.lst (row.map V.int))) xs ys := by
  induction h with
  | nil => exact .nil
  | cons r t ih => exact .cons (hk _ _ (fun z => hd (by simp [z])) r) (ih fun z => hd (List.mem_cons_of_mem _ z))
section
variable {P : Program} {w : World} {K : PySem.W.Frag} {mg : Str → Option Value} {base : Heap}
theorem ok_law_matrix (T : TX K mg) : Fok P w K mg base CX0 2 (He.ga K "_law_matrix") ["_law_knots_here"] [] (spLawMatrix K) := by
  obtain ⟨fd, F⟩ := T.fn_law_matrix
  refine ⟨⟨fd, [], ?_, F.bindsN fun _ _ _ _ _ _ us hl => match us, hl with | [_], _ => rfl, .nil⟩, F.kp⟩
  refine F.ok sc_law_matrix (fun vs H Q E h => ?_) (fun cdv A outer s H vs Q E hr h => ?_)
  · obtain ⟨_, _, rfl, _⟩ := h
    rfl
  obtain ⟨d, N, rfl, hkn, hok, k⟩ := h
  have hu := hu_of hr
  have O_law_falls := @ok_law_falls P w K mg base T
  have hln := hok.len
  obtain ⟨ka, hka, hkk⟩ := id hkn
  refine ssx_nox ?_
  refine ssx_cons (ps_set (i := 1) sc_law_matrix.nd rfl (Or.inr rfl) (pe_callB (q_sortS K) rfl T.f_sorted bb_sorted (pa_cons (pe_callTy (k_listD rfl) rfl T.f_list bt_list (pa_cons (pv 0) pa_nil)) pa_nil))) ?_
  walk_at "w"
  refine w_listD hka fun l1 H1 hl1 s1 h1 => ?_
  walk_at "w"
  refine w_sortS (ks := N.names) (xs := N.names) (sqL h1) (by omega) (List.Perm.refl _) (names_sorted hok) fun ln H2 hln2 s2 h2 => ?_
  walk_at "w"
  have s02 := s1.trans s2
  refine ssx_cons (ps_ret (pe_lc (own := [("_law_name", 2)]) rfl sc_law_matrix.nd (qi_list K (pv 1)) (blkOk_by (N := N_law_matrix) (sc := defScope s_law_matrix) (by decide +kernel)) (fun _ _ _ _ _ => (pg_name (i := 2) sc_law_matrix.nd rfl (Or.inr rfl))) (fun _ _ _ _ _ => pts_nil) (fun _ _ _ _ _ => (pe_lc (own := [("_law_other", 3)]) rfl sc_law_matrix.nd (qi_list K (pv 1)) (blkOk_by (by kernel_rfl)) (fun _ _ _ _ _ => (pg_name (i := 3) sc_law_matrix.nd rfl (Or.inl rfl))) (fun _ _ _ _ _ => pts_nil) (fun _ _ _ _ _ => (pe_op op_sub (pe_ifExp (pt_cmpR op_eq (pv 2) (pv 3) (nomark _)) (pe_callB (q_len K) rfl T.f_len bb_len (pa_cons (pe_ix (q_ixT K) (pe_dget hu (pv 0) (pv 2) (fun _ _ => rfl)) pe_int (fun _ _ => rfl)) pa_nil)) pe_int) (pe_dget2 hu (pe_callF O_law_falls (hr.mono (by decide)) rfl T.g__law_falls pass0 (pa_cons (pv 0) (pa_cons (pv 2) pa_nil))) (pv 3) pe_int ⟨rfl, rfl, rfl, rfl⟩))))))) ?_
  walk_at "w"
  refine rlc (walk_list (xs := N.names.map V.str)) (fun D i acc H3 => ∃ rs : List Addr, acc = rs.map V.ref ∧ Paired (fun r row => H3 r = some (.lst (row.map V.int))) rs ((mtx N).take i) ∧ D ∉ rs) (by rw [List.length_map]; omega) (fun H' s' => sqL (s' _ _ h2)) (fun D H3 _ _ _ => ⟨[], rfl, .nil, by simp⟩) ?_ ?_ ?_
  · rintro D i acc H3 H4 ⟨rs, rfl, hP, hD⟩ hk
    exact ⟨rs, rfl, rows_other hk hP hD, hD⟩
  · rintro D i acc x _ H3 hi _ hD h3D s3 ⟨rs, rfl, hP, hDr⟩ ⟨rfl, hx⟩ KT KF hKT _
    obtain ⟨y, hy, rfl⟩ := map_get hx
    have hyn := List.mem_of_getElem? hy
    walk_at "w"
    refine ⟨rfl, ?_⟩
    walk_at "w"
    have hrow : (mtx N)[i]? = some (N.names.map fun b => (if y = b then ((N.tn y).length : Int) else 0) - (NetD.cr b (N.tn y) : Int)) := by
      unfold mtx; rw [List.getElem?_map, hy]; rfl
    refine rlcV (walk_list (xs := N.names.map V.str)) (fun j acc => acc = (N.names.take j).map fun b => V.int ((if y = b then ((N.tn y).length : Int) else 0) - (NetD.cr b (N.tn y) : Int))) (by rw [List.length_map]; omega) (fun H' s' => sqL (s' _ _ (s3 _ _ h2))) rfl ?_ ?_
    · rintro j acc x _ H4 hj _ s4 rfl ⟨rfl, hx⟩ KT2 KF2 hKT2 _
      obtain ⟨z, hz, rfl⟩ := map_get hx
      walk_at "w"
      refine ⟨rfl, ?_⟩
      walk_at "w"
      have s04 := (s02.trans s3).trans s4
      have hkn4 := hkn.same s04
      have fin : ∀ H5 (v : Int), Same H4 H5 → v = (if y = z then ((N.tn y).length : Int) else 0) - (NetD.cr z (N.tn y) : Int) → KT2 (.int v) H5 := fun H5 v s5 e => hKT2 _ _ s5 (by rw [take_snoc hz, e]; simp)
      refine w_dcases (fun he => ?_) fun he => ?_
      · walk_at "w"
        obtain ⟨kv, f, t, k1, k2, k3, ⟨ds, t1, t2⟩⟩ := NetAt.knot hkn4 hyn
        refine w_getK k1 hyn ?_
        walk_at "w"
        refine w_ixT (v := .ref t) k2 rfl ?_
        walk_at "w"
        refine ⟨d, y, N, rfl, hkn4, hok, hyn, fun r ks f H5 s5 hr0 h5 hzr hf => ?_⟩
        walk_at "w"
        refine w_getOI h5 hzr ?_
        walk_at "w"
        have he' : y = z := by simpa using he
        exact fin _ _ s5 (by rw [hf, if_pos he', List.length_map, paired_len t2])
      · walk_at "w"
        refine ⟨d, y, N, rfl, hkn4, hok, hyn, fun r ks f H5 s5 hr0 h5 hzr hf => ?_⟩
        walk_at "w"
        refine w_getOI h5 hzr ?_
        walk_at "w"
        have he' : ¬ y = z := by simpa using he
        exact fin _ _ s5 (by rw [hf, if_neg he'])
    · rintro Z acc H4 hZ s4 h4 _ rfl
      rw [List.length_map, List.take_length] at h4
      refine hKT _ _ s4 ⟨rs ++ [Z], by simp, ?_, ?_⟩
      · rw [take_snoc hrow]
        exact paired_snoc (paired_imp hP fun _ _ e => s4 _ _ e) (by rw [h4]; simp)
      · intro z
        rcases List.mem_append.mp z with z | z
        · exact hDr z
        · rw [List.mem_singleton.mp z] at h3D; rw [h3D] at hZ; cases hZ
  · rintro D acc H3 hD s3 h3 _ ⟨rs, rfl, hP, hDr⟩
    rw [List.take_of_length_le (by rw [mtx_len, List.length_map]; exact Nat.le_refl _)] at hP
    exact k D H3 (s02.trans s3) ⟨rs, h3, paired_imp hP fun _ _ e => sqL e⟩
end
end K1
namespace K1
open PySem PySem.Spec L2
open PyProof.Rows hiding St
local macro_rules | `(tactic| walk_at "hp") => `(tactic| first | assumption | exact upd_same | (refine' Same.to ?wse ?wsh; (case wse => assumption); (case wsh => walk_at "hp")) | ((rw [upd_ne (by first | assumption | (apply Ne.symm; assumption))]); walk_at "hp"))
local macro_rules | `(tactic| walk_at "sq") => `(tactic| first | assumption | exact sqL (by walk_at "hp") | exact sqT (by walk_at "hp") | (refine' Same.seqTo ?wse ?wsh; (case wse => assumption); (case wsh => walk_at "sq")) | (refine' Same.sqtTo ?wse ?wsh; (case wse => assumption); (case wsh => walk_at "sq")))
local macro_rules | `(tactic| walk_at "w1") => `(tactic| first
  | with_reducible refine w_asg ?_
  | with_reducible refine w_c ?_
  | with_reducible refine w_gname ?_
  | with_reducible refine w_if ?_
  | with_reducible refine w_ifs ?_
  | with_reducible refine w_test ?_
  | with_reducible refine w_tB ?_
  | with_reducible refine w_bl ?_
  | with_reducible refine w_op ?_
  | with_reducible refine w_nil ?_
  | with_reducible refine w_cons ?_
  | with_reducible refine w_cb ?_
  | with_reducible refine w_I0 ?_
  | with_reducible refine w_lst ?_
  | with_reducible refine w_tup ?_
  | with_reducible refine w_sl ?_
  | with_reducible refine w_noPart ?_
  | with_reducible refine w_part ?_
  | with_reducible refine w_int ?_
  | with_reducible refine w_par ?_
  | with_reducible refine w_two ?_
  | with_reducible refine w_par3 ?_
  | with_reducible refine w_three ?_
  | with_reducible refine w_ret ?_
  | with_reducible refine w_drop ?_
  | with_reducible refine w_chain ?_
  | with_reducible refine w_and ?_
  | with_reducible refine w_or ?_
  | with_reducible refine w_not ?_
  | with_reducible refine w_notV ?_
  | with_reducible refine w_andV ?_
  | with_reducible refine w_orV ?_
  | with_reducible refine w_int1 ?_
  | with_reducible refine w_true ?_
  | with_reducible refine w_false ?_
  | with_reducible refine w_for ?_
  | with_reducible refine w_rng1 ?_
  | with_reducible refine w_rng2 ?_
  | with_reducible refine w_iList ?_
  | with_reducible refine w_iTup ?_
  | with_reducible refine w_dget ?_
  | with_reducible refine w_din ?_
  | with_reducible refine w_dnotin ?_
  | with_reducible refine w_dput ?_
  | with_reducible refine w_dget2 ?_
  | with_reducible refine w_fld ?_
  | with_reducible refine w_dnew ?_
  | with_reducible refine w_lc ?_
  | with_reducible refine w_dc ?_
  | with_reducible refine w_iStr ?_
  | with_reducible refine w_str ?_
  | with_reducible refine w_iEnum ?_
  | with_reducible refine w_iZip ?_
  | with_reducible refine w_yes ?_
  | with_reducible refine w_gtup ?_
  | with_reducible refine w_gcons ?_
  | with_reducible refine w_rcons ?_
  | with_reducible refine w_gnil ?_
  | with_reducible refine w_leS ?_
  | with_reducible refine w_isN ?_
  | with_reducible refine w_notN ?_
  | with_reducible refine w_call ?_
  | with_reducible refine w_meth ?_
  | with_reducible refine w_bm ?_
  | with_reducible refine w_bm0 ?_
  | with_reducible refine isi_int ?_
  | with_reducible refine isi_bl_int ?_
  | with_reducible refine isi_int_bl ?_
  | with_reducible refine isi_bl ?_
  | with_reducible refine isi_str ?_
  | with_reducible refine isi_non_dict ?_
  | with_reducible refine isi_int_dict ?_
  | with_reducible refine w_ntrue ?_
  | with_reducible refine w_nfalse ?_
  | with_reducible refine w_wt ?_
  | with_reducible refine w_starD ?_
  | with_reducible refine w_starT ?_
  | with_reducible refine w_listVals ?_
  | with_reducible refine w_iEnumT ?_
  | with_reducible refine w_iEnumS ?_
  | with_reducible refine w_enumS ?_
  | with_reducible refine w_frz ?_
  | with_reducible refine w_iItems ?_
  | with_reducible refine w_iKeys ?_
  | with_reducible refine w_iVals ?_
  | with_reducible refine w_strS ?_
  | with_reducible refine w_daug ?_
  | with_reducible refine w_rAdd ?_
  | with_reducible refine w_sfld ?_
  | ((with_reducible refine' w_var ?wsd ?_); (case wsd => first | rfl | assumption))
  | ((with_reducible refine' w_eq ?wsd ?_); (case wsd => rfl))
  | ((with_reducible refine' w_ne ?wsd ?_); (case wsd => rfl))
  | ((with_reducible refine' w_lenL ?wsd ?_); (case wsd => walk_at "sq"))
  | ((with_reducible refine' w_lenT ?wsd ?_); (case wsd => walk_at "sq"))
  | ((with_reducible refine' w_itL ?wsd ?_); (case wsd => walk_at "sq"))
  | ((with_reducible refine' w_itT ?wsd ?_); (case wsd => walk_at "sq"))
  | ((with_reducible refine' w_rng1v ?wsd ?_); (case wsd => omega))
  | ((with_reducible refine' w_rng2v ?wsd ?_); (case wsd => omega))
  | ((with_reducible refine' w_I ?wsd ?_); (case wsd => walk_at "side"))
  | ((with_reducible refine' w_dtrue ?wsd ?_); (case wsd => first | assumption | omega | rfl | decide))
  | ((with_reducible refine' w_dfalse ?wsd ?_); (case wsd => first | assumption | omega | decide))
  | ((with_reducible refine' w_ndtrue ?wsd ?_); (case wsd => first | assumption | omega | rfl | decide))
  | ((with_reducible refine' w_ndfalse ?wsd ?_); (case wsd => first | assumption | omega | decide))
  | ((with_reducible refine' w_stD ?wsd ?_); (case wsd => walk_at "hp"))
  | ((with_reducible refine' w_stT ?wsd ?_); (case wsd => walk_at "sq"))
  | ((with_reducible refine' w_stL ?wsd ?_); (case wsd => walk_at "sq"))
  | ((with_reducible refine' w_isD ?wsd ?_); (case wsd => walk_at "hp"))
  | ((with_reducible refine' isi_tup ?wsd ?_); (case wsd => walk_at "sq"))
  | ((with_reducible refine' isi_dict ?wsd ?_); (case wsd => walk_at "hp"))
  | ((with_reducible refine' w_lenDv ?wsd ?_); (case wsd => walk_at "hp"))
  | ((with_reducible refine' w_enum ?wsd ?_); (case wsd => walk_at "sq"))
  | ((with_reducible refine' w_enumT ?wsd ?_); (case wsd => walk_at "sq"))
  | ((with_reducible refine' w_tyL ?wsd ?_); (case wsd => walk_at "sq")))
local macro_rules | `(tactic| walk_at "side") => `(tactic| first | omega | decide | (constructor <;> omega) | (constructor <;> decide) | (simp only [List.length_map, List.length_append, List.length_cons, List.length_nil, CDivN, CMul, CPow]; first | omega | decide | (constructor <;> omega)))
local macro_rules | `(tactic| walk_at "w") => `(tactic| repeat (walk_at "w1"))
def spLawDet (K : PySem.W.Frag) (n : Nat) : Sp := fun vs H Q _ => ∃ (l : Addr) (M : List (List Int)), vs = [.ref l] ∧ MatAt K H l M ∧ M.length = n ∧ Mat.Sq M ∧ Mat.Bd 10 M ∧ n ≤ 4 ∧ ∀ H', Same H H' → Q (.int (Mat.det n M)) H'
abbrev N_law_det : List Str := ["_law_rows", "_law_found", "_law_at", "_law_row", "_law_less", "_law_spot", "_law_one"]
theorem sc_law_det : FnScope N_law_det ["_law_rows"] (defScope s_law_det) := ⟨rfl, rfl, rfl, by decide +kernel, rfl, by decide +kernel, by decide +kernel⟩
def dsum (n : Nat) (M : List (List Int)) (i : Nat) : Int := ((List.range i).map fun i => (if i % 2 = 0 then 1 else -1) * Mat.cell M i 0 * Mat.det n ((M.eraseIdx i).map List.tail)).sum
theorem dsum_succ (n : Nat) (M : List (List Int)) (i : Nat) : dsum n M (i + 1) = dsum n M i + (if i % 2 = 0 then 1 else -1) * Mat.cell M i 0 * Mat.det n ((M.eraseIdx i).map List.tail) := by
  unfold dsum
  rw [List.range_succ, List.map_append, List.sum_append]
  simp
theorem erase_take {M : List (List Int)} {a j : Nat} {r : List Int} (h : M[j]? = some r) : (M.take (j + 1)).eraseIdx a = (M.take j).eraseIdx a ++ if j = a then [] else [r] := by
  obtain ⟨hj, _⟩ := List.getElem?_eq_some_iff.mp h
  have hl : (M.take j).length = j := by rw [List.length_take]; omega
  rw [take_snoc h]
  by_cases e : j = a
  · subst e
    rw [if_pos rfl, List.append_nil, List.eraseIdx_append_of_length_le (by omega), List.eraseIdx_of_length_le (l := M.take j) (by omega), hl, Nat.sub_self]
    simp
  · rw [if_neg e]
    rcases Nat.lt_or_ge a j with z | z
    · rw [List.eraseIdx_append_of_lt_length (by omega)]
    · have h2 : (M.take j ++ [r]).length = j + 1 := by rw [List.length_append, hl]; rfl
      rw [List.eraseIdx_of_length_le (by omega), List.eraseIdx_of_length_le (by omega)]
theorem less_sq {M : List (List Int)} {i n : Nat} (hl : M.length = n + 1) (hi : i < M.length) (h : Mat.Sq M) : Mat.Sq ((M.eraseIdx i).map List.tail) ∧ ((M.eraseIdx i).map List.tail).length = n := by
  have e : ((M.eraseIdx i).map List.tail).length = n := by rw [List.length_map, List.length_eraseIdx_of_lt hi]; omega
  refine ⟨fun r hr => ?_, e⟩
  obtain ⟨q, hq, rfl⟩ := List.mem_map.mp hr
  have := h q (List.mem_of_mem_eraseIdx hq)
  rw [e, List.length_tail]; omega
theorem less_bd {M : List (List Int)} {i : Nat} {c : Int} (h : Mat.Bd c M) : Mat.Bd c ((M.eraseIdx i).map List.tail) := by
  intro r hr x hx
  obtain ⟨q, hq, rfl⟩ := List.mem_map.mp hr
  exact h q (List.mem_of_mem_eraseIdx hq) x (List.mem_of_mem_tail hx)
theorem cut_one (xs : List V) : cutV xs (some 1) none = xs.tail := by
  unfold cutV
  rw [show (1 : Int) = ((1 : Nat) : Int) from rfl, HT.sIx_nat, HT.sIx_none]
  cases xs with
  | nil => rfl
  | cons a b =>
    rw [Nat.min_eq_left (by simp)]
    simp
section
variable {K : PySem.W.Frag} {H : Hp}
theorem dl_rows {rs : List Addr} {M : List (List Int)} (h : Paired (fun r row => SqL K H r (row.map V.int)) rs M) : DL K H (rs.map V.ref) (M.map fun row => .list (row.map .int)) := by
  induction h with
  | nil => exact DL.nil
  | @cons r row rs M a t ih => exact DL.cons (.lst a (dp_ints row)) (by simp [PyData.canLay0, (lay_ints row).1]) (by simp [PyData.depth, (lay_ints row).2]) ih
end
section
variable {P : Program} {w : World} {K : PySem.W.Frag} {mg : Str → Option Value} {base : Heap}
theorem fn_law_det_ok (T : TX K mg) {fd : FuncData} (F : FunD K "_law_det" "_law_det" (defArgs s_law_det) (defBody s_law_det) (defScope s_law_det) [] [] (He.ga K "_law_det") fd) : ∀ n : Nat, FnOk P w K mg base CX0 (n + 1) (He.ga K "_law_det") fd ["_law_rows"] (spLawDet K n) := by
  intro n
  induction n with
  | zero =>
    refine F.ok sc_law_det (fun vs H Q E h => ?_) (fun cdv A outer s H vs Q E hr h => ?_)
    · obtain ⟨_, _, rfl, _⟩ := h
      rfl
    obtain ⟨l, M, rfl, ⟨rs, hl, hP⟩, hM, hsq, hbd, _, k⟩ := h
    have hu := hu_of hr
    obtain rfl : M = [] := List.length_eq_zero_iff.mp hM
    have hrs := paired_len hP
    obtain rfl : rs = [] := List.length_eq_zero_iff.mp hrs
    refine ssx_nox ?_
    refine ssx_cons (ps_if (pt_cmpR (q_eqD K hr.units) (pv 0) (pe_lst pa_nil) (nomark _)) SSX.ps SSX.ps) ?_
    walk_at "w"
    refine w_newL (by simp) fun e H1 he s1 h1 => ?_
    refine w_eqNilL (sqL (s1 _ _ hl)) (sqL h1) DL.nil ?_
    walk_at "w"
    refine ssx_cons (ps_ret pe_int) ?_
    walk_at "w"
    exact k H1 s1
  | succ n ih =>
    have O_law_det : Fok P w K mg base CX0 (n + 1) (He.ga K "_law_det") ["_law_rows"] [] (spLawDet K n) := ⟨⟨fd, [], ih, F.bindsN fun _ _ _ _ _ _ us hl => match us, hl with | [_], _ => rfl, .nil⟩, F.kp⟩
    refine F.ok sc_law_det (fun vs H Q E h => ?_) (fun cdv A outer s H vs Q E hr h => ?_)
    · obtain ⟨_, _, rfl, _⟩ := h
      rfl
    obtain ⟨l, M, rfl, ⟨rs, hl, hP⟩, hM, hsq, hbd, hn4, k⟩ := h
    have hu := hu_of hr
    have hrs := paired_len hP
    refine ssx_nox ?_
    refine ssx_cons (ps_if (pt_cmpR (q_eqD K hr.units) (pv 0) (pe_lst pa_nil) (nomark _)) SSX.ps SSX.ps) ?_
    walk_at "w"
    refine w_newL (by simp) fun e H1 he s1 h1 => ?_
    refine w_eqNilL (s1.seq (sqL hl)) (sqL h1) (dl_rows (paired_imp hP fun _ _ z => s1.seq z)) ?_
    have hne : (rs.map V.ref).isEmpty = false := by cases rs <;> simp_all
    rw [hne]
    walk_at "w"
    refine ssx_nil ?_
    refine ssx_cons (ps_set (i := 1) sc_law_det.nd rfl (Or.inl rfl) pe_int) ?_
    walk_at "w"
    have hl1 := s1 _ _ hl
    clear h1 he
    refine ssx_cons (ps_for PassesOwn.never rfl (qi_enum K rfl T.f_enumerate (pa_cons (pv 0) pa_nil)) (qg_tup (n := 2) K rfl (pgs_cons (pg_name (i := 2) sc_law_det.nd rfl (Or.inr rfl)) (pgs_cons (pg_name (i := 3) sc_law_det.nd rfl (Or.inl rfl)) pgs_nil))) SSX.ps) ?_
    walk_at "w"
    refine for_walk (walk_enum (xs := rs.map V.ref)) (fun i σ H2 => (∃ o2 o3 o4, σ = [some (.ref l), some (.int (dsum n M i)), o2, o3, o4, none, none]) ∧ Same H H2) ⟨⟨_, _, _, rfl⟩, s1⟩ (fun i σ H2 _ h => h.2.seq (sqL hl)) ?_ ?_
    · rintro i x σ H2 _ hi ⟨⟨o2, o3, o4, rfl⟩, s2⟩ ⟨T2, _, y, rfl, hT2, rfl, e0, ey⟩
      cases e0
      obtain ⟨r, hr0, rfl⟩ := map_get ey
      rw [List.length_map] at hi
      have him : i < M.length := by omega
      have hMi : M[i]? = some (M[i]'him) := List.getElem?_eq_getElem _
      obtain ⟨r', e1, e2⟩ := paired_get hP hMi
      rw [hr0] at e1; cases e1
      have hrl := hsq _ (List.getElem_mem him)
      have hrb := hbd _ (List.getElem_mem him)
      generalize M[i]'him = row at *
      refine g_pair ?_
      have s3 : Same H (upd H2 T2 (.tup [.int (i : Nat), .ref r])) := s2.trans (Same.alloc hT2)
      generalize upd H2 T2 (.tup [.int (i : Nat), .ref r]) = H3 at *
      have h0 : row[0]? = some (Mat.cell M i 0) := by
        rw [cell_get hMi (List.getElem?_eq_getElem (show 0 < row.length by omega))]
        exact List.getElem?_eq_getElem _
      have hb0 := hrb _ (List.mem_of_getElem? h0)
      have e0 : ((row.map V.int)[0]? = some (V.int (Mat.cell M i 0))) := by rw [List.getElem?_map, h0]; rfl
      refine ssx_cons (ps_if (pt_cmpR op_ne (pe_ix (q_ixL K) (pv 3) pe_int (fun _ _ => rfl)) pe_int (nomark _)) SSX.ps SSX.ps) ?_
      walk_at "w"
      refine w_ixL (v := .int (Mat.cell M i 0)) (s3.seq e2) (atI_nat (j := 0) e0) ?_
      walk_at "w"
      refine w_ndcases (fun hz => ?_) fun hz => ?_
      · have hz' : Mat.cell M i 0 = 0 := by simpa using hz
        rw [show dsum n M i = dsum n M (i + 1) by rw [dsum_succ, hz', Int.mul_zero, Int.zero_mul, Int.add_zero]]
        exact ssx_nil (ssx_nil ⟨⟨_, _, _, rfl⟩, s3⟩)
      · refine ssx_cons (ps_setLc (i := 4) (own := [("_law_spot", 5), ("_law_one", 6)]) rfl sc_law_det.nd rfl rfl (sw_true rfl rfl rfl (by decide +kernel)) (qi_enum K rfl T.f_enumerate (pa_cons (pv 0) pa_nil)) (blkOk_by (N := N_law_det) (sc := defScope s_law_det) (by decide +kernel)) (fun _ _ _ _ _ => (qg_tup (n := 2) K rfl (pgs_cons (pg_name (i := 5) sc_law_det.nd rfl (Or.inl rfl)) (pgs_cons (pg_name (i := 6) sc_law_det.nd rfl (Or.inl rfl)) pgs_nil)))) (fun _ _ _ _ _ => (pts_one (pt_cmpR op_ne (pv 5) (pv 2) (nomark _)))) (fun _ _ _ _ _ => (pe_slice (q_slL K) (pv 6) (po_some pe_int) po_none))) ?_
        walk_at "w"
        have hls := less_sq hM him hsq
        refine rlc (walk_enum (xs := rs.map V.ref)) (fun D j acc H4 => ∃ qs : List Addr, acc = qs.map V.ref ∧ Paired (fun r row => H4 r = some (.lst (row.map V.int))) qs (((M.take j).eraseIdx i).map List.tail) ∧ D ∉ qs) (by rw [List.length_map]; omega) (fun H' s' => s'.seq (s3.seq (sqL hl))) (fun D H4 _ _ _ => ⟨[], rfl, by simp; exact .nil, by simp⟩) ?_ ?_ ?_
        · rintro D j acc H4 H5 ⟨qs, rfl, hq, hD⟩ hk
          exact ⟨qs, rfl, rows_other hk hq hD, hD⟩
        · rintro D j acc x H4 _ hj _ hD h4D s4 ⟨qs, rfl, hq, hDq⟩ ⟨T4, _, y, rfl, hT4, rfl, e0, ey⟩ KT KF hKT hKF
          cases e0
          obtain ⟨r2, hr2, rfl⟩ := map_get ey
          rw [List.length_map] at hj
          have hjm : j < M.length := by omega
          have hMj : M[j]? = some (M[j]'hjm) := List.getElem?_eq_getElem _
          obtain ⟨r', e1, e2'⟩ := paired_get hP hMj
          rw [hr2] at e1; cases e1
          generalize M[j]'hjm = rowj at *
          have s5 : Same H4 (upd H4 T4 (.tup [.int (j : Nat), .ref r2])) := Same.alloc hT4
          refine g_pair ?_
          refine ⟨rfl, ?_⟩
          generalize upd H4 T4 (.tup [.int (j : Nat), .ref r2]) = H5 at *
          have het := erase_take (a := i) hMj
          walk_at "w"
          refine w_ndcases (fun hji => ?_) fun hji => ?_
          · have hji' : j = i := by simp at hji; omega
            refine hKF _ s5 ⟨qs, rfl, ?_, hDq⟩
            rw [het, if_pos hji', List.append_nil]
            exact paired_imp hq fun _ _ z => s5 _ _ z
          · have hji' : ¬ j = i := by simp at hji; omega
            walk_at "w"
            refine w_slL (xs := rowj.map V.int) ((s3.trans (s4.trans s5)).seq e2') fun z H6 hz6 s6 h6 => ?_
            refine hKT _ _ (s5.trans s6) ⟨qs ++ [z], by simp, ?_, ?_⟩
            · rw [het, if_neg hji', List.map_append]
              refine paired_snoc (paired_imp hq fun _ _ z => s6 _ _ (s5 _ _ z)) ?_
              rw [h6]
              have : cutV (rowj.map V.int) (some 1) none = rowj.tail.map V.int := by rw [cut_one, List.map_tail]
              rw [this]
            · intro y
              rcases List.mem_append.mp y with y | y
              · exact hDq y
              · rw [List.mem_singleton.mp y] at h4D; rw [s5 _ _ h4D] at hz6; cases hz6
        · rintro D acc H4 hD s4 h4 _ ⟨qs, rfl, hq, hDq⟩
          rw [List.length_map, hrs, List.take_length] at hq
          have s04 := s3.trans s4
          walk_at "w"
          refine ssx_cons (ps_set (i := 1) sc_law_det.nd rfl (Or.inl rfl) (pe_op op_add (pv 1) (pe_op op_mul (pe_op op_mul (pe_ifExp (pt_cmpR op_eq (pe_op op_modN (pv 2) pe_int) pe_int (nomark _)) pe_int (pe_un un_neg pe_int)) (pe_ix (q_ixL K) (pv 3) pe_int (fun _ _ => rfl))) (pe_callF O_law_det (hr.mono (Nat.le_refl _)) rfl T.g__law_det pass0 (pa_cons (pv 4) pa_nil))))) ?_
          walk_at "w"
          rw [show ((i : Int)).fmod 2 = ((i % 2 : Nat) : Int) from fmod_nat i 2]
          refine w_dcases (fun hpar => ?_) fun hpar => ?_
          · have hpar' : i % 2 = 0 := by simp at hpar; omega
            walk_at "w"
            refine w_ixL (v := .int (Mat.cell M i 0)) (s04.seq e2) (atI_nat (j := 0) e0) ?_
            walk_at "w"
            refine ⟨D, _, rfl, ⟨qs, h4, paired_imp hq fun _ _ z => sqL z⟩, hls.2, hls.1, less_bd hbd, by omega, fun H5 s5 => ?_⟩
            refine w_I (C := CMul) (m := 1 * Mat.cell M i 0) (.inl ⟨by omega, by omega⟩) ?_
            walk_at "w"
            rw [show dsum n M i + 1 * Mat.cell M i 0 * Mat.det n ((M.eraseIdx i).map List.tail) = dsum n M (i + 1) by rw [dsum_succ, if_pos hpar']]
            exact ssx_nil (ssx_nil ⟨⟨_, _, _, rfl⟩, s04.trans s5⟩)
          · have hpar' : ¬ i % 2 = 0 := by simp at hpar; omega
            refine w_un ?_
            walk_at "w"
            refine w_rU ?_
            walk_at "w"
            refine w_ixL (v := .int (Mat.cell M i 0)) (s04.seq e2) (atI_nat (j := 0) e0) ?_
            walk_at "w"
            refine ⟨D, _, rfl, ⟨qs, h4, paired_imp hq fun _ _ z => sqL z⟩, hls.2, hls.1, less_bd hbd, by omega, fun H5 s5 => ?_⟩
            refine w_I (C := CMul) (m := -1 * Mat.cell M i 0) (.inl ⟨by omega, by omega⟩) ?_
            walk_at "w"
            rw [show dsum n M i + -1 * Mat.cell M i 0 * Mat.det n ((M.eraseIdx i).map List.tail) = dsum n M (i + 1) by rw [dsum_succ, if_neg hpar']]
            exact ssx_nil (ssx_nil ⟨⟨_, _, _, rfl⟩, s04.trans s5⟩)
    · rintro σ H2 ⟨⟨o2, o3, o4, rfl⟩, s2⟩
      refine ssx_cons (ps_ret (pv 1)) ?_
      walk_at "w"
      have : dsum n M (rs.map V.ref).length = Mat.det (n + 1) M := by rw [List.length_map, hrs]; rfl
      rw [this]
      exact k H2 s2
end
end K1
namespace K1
open PySem PySem.Spec L2
open PyProof.Rows hiding St
local macro_rules | `(tactic| walk_at "hp") => `(tactic| first | assumption | exact upd_same | (refine' Same.to ?wse ?wsh; (case wse => assumption); (case wsh => walk_at "hp")) | ((rw [upd_ne (by first | assumption | (apply Ne.symm; assumption))]); walk_at "hp"))
local macro_rules | `(tactic| walk_at "sq") => `(tactic| first | assumption | exact sqL (by walk_at "hp") | exact sqT (by walk_at "hp") | (refine' Same.seqTo ?wse ?wsh; (case wse => assumption); (case wsh => walk_at "sq")) | (refine' Same.sqtTo ?wse ?wsh; (case wse => assumption); (case wsh => walk_at "sq")))
local macro_rules | `(tactic| walk_at "w1") => `(tactic| first
  | with_reducible refine w_asg ?_
  | with_reducible refine w_c ?_
  | with_reducible refine w_gname ?_
  | with_reducible refine w_if ?_
  | with_reducible refine w_ifs ?_
  | with_reducible refine w_test ?_
  | with_reducible refine w_tB ?_
  | with_reducible refine w_bl ?_
  | with_reducible refine w_op ?_
  | with_reducible refine w_nil ?_
  | with_reducible refine w_cons ?_
  | with_reducible refine w_cb ?_
  | with_reducible refine w_I0 ?_
  | with_reducible refine w_lst ?_
  | with_reducible refine w_tup ?_
  | with_reducible refine w_sl ?_
  | with_reducible refine w_noPart ?_
  | with_reducible refine w_part ?_
  | with_reducible refine w_int ?_
  | with_reducible refine w_par ?_
  | with_reducible refine w_two ?_
  | with_reducible refine w_par3 ?_
  | with_reducible refine w_three ?_
  | with_reducible refine w_ret ?_
  | with_reducible refine w_drop ?_
  | with_reducible refine w_chain ?_
  | with_reducible refine w_and ?_
  | with_reducible refine w_or ?_
  | with_reducible refine w_not ?_
  | with_reducible refine w_notV ?_
  | with_reducible refine w_andV ?_
  | with_reducible refine w_orV ?_
  | with_reducible refine w_int1 ?_
  | with_reducible refine w_true ?_
  | with_reducible refine w_false ?_
  | with_reducible refine w_for ?_
  | with_reducible refine w_rng1 ?_
  | with_reducible refine w_rng2 ?_
  | with_reducible refine w_iList ?_
  | with_reducible refine w_iTup ?_
  | with_reducible refine w_dget ?_
  | with_reducible refine w_din ?_
  | with_reducible refine w_dnotin ?_
  | with_reducible refine w_dput ?_
  | with_reducible refine w_dget2 ?_
  | with_reducible refine w_fld ?_
  | with_reducible refine w_dnew ?_
  | with_reducible refine w_lc ?_
  | with_reducible refine w_dc ?_
  | with_reducible refine w_iStr ?_
  | with_reducible refine w_str ?_
  | with_reducible refine w_iEnum ?_
  | with_reducible refine w_iZip ?_
  | with_reducible refine w_yes ?_
  | with_reducible refine w_gtup ?_
  | with_reducible refine w_gcons ?_
  | with_reducible refine w_rcons ?_
  | with_reducible refine w_gnil ?_
  | with_reducible refine w_leS ?_
  | with_reducible refine w_isN ?_
  | with_reducible refine w_notN ?_
  | with_reducible refine w_call ?_
  | with_reducible refine w_meth ?_
  | with_reducible refine w_bm ?_
  | with_reducible refine w_bm0 ?_
  | with_reducible refine isi_int ?_
  | with_reducible refine isi_bl_int ?_
  | with_reducible refine isi_int_bl ?_
  | with_reducible refine isi_bl ?_
  | with_reducible refine isi_str ?_
  | with_reducible refine isi_non_dict ?_
  | with_reducible refine isi_int_dict ?_
  | with_reducible refine w_ntrue ?_
  | with_reducible refine w_nfalse ?_
  | with_reducible refine w_wt ?_
  | with_reducible refine w_starD ?_
  | with_reducible refine w_starT ?_
  | with_reducible refine w_listVals ?_
  | with_reducible refine w_iEnumT ?_
  | with_reducible refine w_iEnumS ?_
  | with_reducible refine w_enumS ?_
  | with_reducible refine w_frz ?_
  | with_reducible refine w_iItems ?_
  | with_reducible refine w_iKeys ?_
  | with_reducible refine w_iVals ?_
  | with_reducible refine w_strS ?_
  | with_reducible refine w_daug ?_
  | with_reducible refine w_rAdd ?_
  | with_reducible refine w_sfld ?_
  | ((with_reducible refine' w_var ?wsd ?_); (case wsd => first | rfl | assumption))
  | ((with_reducible refine' w_eq ?wsd ?_); (case wsd => rfl))
  | ((with_reducible refine' w_ne ?wsd ?_); (case wsd => rfl))
  | ((with_reducible refine' w_lenL ?wsd ?_); (case wsd => walk_at "sq"))
  | ((with_reducible refine' w_lenT ?wsd ?_); (case wsd => walk_at "sq"))
  | ((with_reducible refine' w_itL ?wsd ?_); (case wsd => walk_at "sq"))
  | ((with_reducible refine' w_itT ?wsd ?_); (case wsd => walk_at "sq"))
  | ((with_reducible refine' w_rng1v ?wsd ?_); (case wsd => omega))
  | ((with_reducible refine' w_rng2v ?wsd ?_); (case wsd => omega))
  | ((with_reducible refine' w_I ?wsd ?_); (case wsd => walk_at "side"))
  | ((with_reducible refine' w_dtrue ?wsd ?_); (case wsd => first | assumption | omega | rfl | decide))
  | ((with_reducible refine' w_dfalse ?wsd ?_); (case wsd => first | assumption | omega | decide))
  | ((with_reducible refine' w_ndtrue ?wsd ?_); (case wsd => first | assumption | omega | rfl | decide))
  | ((with_reducible refine' w_ndfalse ?wsd ?_); (case wsd => first | assumption | omega | decide))
  | ((with_reducible refine' w_stD ?wsd ?_); (case wsd => walk_at "hp"))
  | ((with_reducible refine' w_stT ?wsd ?_); (case wsd => walk_at "sq"))
  | ((with_reducible refine' w_stL ?wsd ?_); (case wsd => walk_at "sq"))
  | ((with_reducible refine' w_isD ?wsd ?_); (case wsd => walk_at "hp"))
  | ((with_reducible refine' isi_tup ?wsd ?_); (case wsd => walk_at "sq"))
  | ((with_reducible refine' isi_dict ?wsd ?_); (case wsd => walk_at "hp"))
  | ((with_reducible refine' w_lenDv ?wsd ?_); (case wsd => walk_at "hp"))
  | ((with_reducible refine' w_enum ?wsd ?_); (case wsd => walk_at "sq"))
  | ((with_reducible refine' w_enumT ?wsd ?_); (case wsd => walk_at "sq"))
  | ((with_reducible refine' w_tyL ?wsd ?_); (case wsd => walk_at "sq")))
local macro_rules | `(tactic| walk_at "side") => `(tactic| first | omega | decide | (constructor <;> omega) | (constructor <;> decide) | (simp only [List.length_map, List.length_append, List.length_cons, List.length_nil, CDivN, CMul, CPow]; first | omega | decide | (constructor <;> omega)))
local macro_rules | `(tactic| walk_at "w") => `(tactic| repeat (walk_at "w1"))
def spDetU (K : PySem.W.Frag) : Sp := fun vs H Q E => ∃ n, n ≤ 4 ∧ spLawDet K n vs H Q E
def spLawDoesEnd (K : PySem.W.Frag) : Sp := fun vs H Q _ => ∃ (d : Addr) (N : NetD), vs = [.ref d] ∧ KnotsAt K H d N ∧ N.Ok ∧ (N.Ends → ∀ H', Same H H' → Q (.bl true) H') ∧ (¬ N.Ends → ∀ H', Same H H' → Q (.bl false) H')
abbrev N_law_does_end : List Str := ["_law_knots_here", "_law_rows", "_law_size", "_law_row"]
theorem sc_law_does_end : FnScope N_law_does_end ["_law_knots_here"] (defScope s_law_does_end) := ⟨rfl, rfl, rfl, by decide +kernel, rfl, by decide +kernel, by decide +kernel⟩
theorem lead_sq {M : List (List Int)} {s : Nat} (hs : s ≤ M.length) (h : Mat.Sq M) : Mat.Sq (Mat.lead s M) ∧ (Mat.lead s M).length = s := by
  have e : (Mat.lead s M).length = s := by unfold Mat.lead; rw [List.length_map, List.length_take]; omega
  refine ⟨fun r hr => ?_, e⟩
  obtain ⟨q, hq, rfl⟩ := List.mem_map.mp hr
  have := h q (List.mem_of_mem_take hq)
  rw [e, List.length_take]; omega
theorem lead_bd {M : List (List Int)} {s : Nat} {c : Int} (h : Mat.Bd c M) : Mat.Bd c (Mat.lead s M) := by
  intro r hr x hx
  obtain ⟨q, hq, rfl⟩ := List.mem_map.mp hr
  exact h q (List.mem_of_mem_take hq) x (List.mem_of_mem_take hx)
section
variable {P : Program} {w : World} {K : PySem.W.Frag} {mg : Str → Option Value} {base : Heap}
theorem ok_law_det (T : TX K mg) : Fok P w K mg base CX0 5 (He.ga K "_law_det") ["_law_rows"] [] (spDetU K) := by
  obtain ⟨fd, F⟩ := T.fn_law_det
  have ih := fun n => @fn_law_det_ok P w K mg base T fd F n
  refine ⟨⟨fd, [], ⟨fun vs H Q E ⟨n, _, h⟩ => (ih n).len vs H Q E h, fun A outer s H args us vs Q E hr e b r ⟨n, hn, h⟩ => (ih n).run A outer s H args us vs Q E (hr.mono (by omega)) e b r h⟩, F.bindsN fun _ _ _ _ _ _ us hl => match us, hl with | [_], _ => rfl, .nil⟩, F.kp⟩
theorem ok_law_does_end (T : TX K mg) : Fok P w K mg base CX0 6 (He.ga K "_law_does_end") ["_law_knots_here"] [] (spLawDoesEnd K) := by
  obtain ⟨fd, F⟩ := T.fn_law_does_end
  refine ⟨⟨fd, [], ?_, F.bindsN fun _ _ _ _ _ _ us hl => match us, hl with | [_], _ => rfl, .nil⟩, F.kp⟩
  refine F.ok sc_law_does_end (fun vs H Q E h => ?_) (fun cdv A outer s H vs Q E hr h => ?_)
  · obtain ⟨_, _, rfl, _⟩ := h
    rfl
  obtain ⟨d, N, rfl, hkn, hok, k1, k2⟩ := h
  have hu := hu_of hr
  have O_law_matrix := @ok_law_matrix P w K mg base T
  have O_law_det := @ok_law_det P w K mg base T
  have hln := hok.len
  refine ssx_nox ?_
  refine ssx_cons (ps_set (i := 1) sc_law_does_end.nd rfl (Or.inr rfl) (pe_callF O_law_matrix (hr.mono (by decide)) rfl T.g__law_matrix pass0 (pa_cons (pv 0) pa_nil))) ?_
  walk_at "w"
  refine ⟨d, N, rfl, hkn, hok, fun l H1 s1 ⟨rs, hl, hP⟩ => ?_⟩
  walk_at "w"
  have hrs := paired_len hP
  have hml := @mtx_len N
  refine ssx_cons (ps_ret (pe_cmpR op_gt (pe_callB (q_min K rfl) rfl T.f_min bb_min (pa_cons (pe_lc (own := [("_law_size", 2)]) rfl sc_law_does_end.nd (pi_range2 rfl T.f_range (pa_cons pe_int (pa_cons (pe_op op_add (pe_callB (q_len K) rfl T.f_len bb_len (pa_cons (pv 1) pa_nil)) pe_int) pa_nil))) (blkOk_by (N := N_law_does_end) (sc := defScope s_law_does_end) (by decide +kernel)) (fun _ _ _ _ _ => (pg_name (i := 2) sc_law_does_end.nd rfl (Or.inr rfl))) (fun _ _ _ _ _ => pts_nil) (fun _ _ _ _ _ => (pe_callF O_law_det (hr.mono (by decide)) rfl T.g__law_det pass0 (pa_cons (pe_lc (own := [("_law_row", 3)]) rfl sc_law_does_end.nd (qi_list K (pe_slice (q_slL K) (pv 1) po_none (po_some (pv 2)))) (blkOk_by (by kernel_rfl)) (fun _ _ _ _ _ => (pg_name (i := 3) sc_law_does_end.nd rfl (Or.inl rfl))) (fun _ _ _ _ _ => pts_nil) (fun _ _ _ _ _ => (pe_slice (q_slL K) (pv 3) po_none (po_some (pv 2))))) pa_nil)))) pa_nil)) pe_int (nomark _))) ?_
  walk_at "w"
  rw [List.length_map]
  refine w_rng2v (by omega) ?_
  rw [show (((rs.length : Int) + 1) - 1).toNat = N.names.length by omega]
  refine rlcV walk_range (fun j acc => acc = ((List.range j).map fun i => Mat.det (i + 1) (Mat.lead (i + 1) (mtx N))).map V.int) (by omega) (fun _ _ => trivial) rfl ?_ ?_
  · rintro j acc x _ H2 hj _ s2 rfl ⟨rfl, rfl⟩ KT KF hKT _
    rw [show ((fun i : Nat => V.int (1 + (i : Int))) j) = V.int ((j + 1 : Nat) : Int) from congrArg V.int (by omega)]
    walk_at "w"
    refine ⟨rfl, ?_⟩
    walk_at "w"
    refine w_slL (sqL (s2 _ _ hl)) fun l3 H3 hl3 s3 h3 => ?_
    rw [cut_take, ← List.map_take] at h3
    refine w_itL (sqL h3) ?_
    have hP3 : Paired (fun r row => SqL K H1 r (row.map V.int)) (rs.take (j + 1)) ((mtx N).take (j + 1)) := by
      have htake : ∀ (n : Nat) {xs : List Addr} {ys : List (List Int)}, Paired (fun r row => SqL K H1 r (row.map V.int)) xs ys → Paired (fun r row => SqL K H1 r (row.map V.int)) (xs.take n) (ys.take n) := by
        intro n
        induction n with
        | zero => exact fun h => .nil
        | succ n ih => exact fun h => match h with | .nil => .nil | .cons a t => .cons a (ih t)
      exact htake _ hP
    have hr3 := paired_len hP3
    refine rlc (walk_list (xs := (rs.take (j + 1)).map V.ref)) (fun D i acc H4 => ∃ qs : List Addr, acc = qs.map V.ref ∧ Paired (fun r row => H4 r = some (.lst (row.map V.int))) qs ((Mat.lead (j + 1) (mtx N)).take i) ∧ D ∉ qs) (by rw [List.length_map, List.length_take]; omega) (fun H' s' => sqL (s' _ _ h3)) (fun D H4 _ _ _ => ⟨[], rfl, .nil, by simp⟩) ?_ ?_ ?_
    · rintro D i acc H4 H5 ⟨qs, rfl, hq, hD⟩ hk
      exact ⟨qs, rfl, rows_other hk hq hD, hD⟩
    · rintro D i acc x _ H4 hi _ hD h4D s4 ⟨qs, rfl, hq, hDq⟩ ⟨rfl, hx⟩ KT2 KF2 hKT2 _
      obtain ⟨r, hr0, rfl⟩ := map_get hx
      obtain ⟨hil, _⟩ := List.getElem?_eq_some_iff.mp hr0
      have hMi : ((mtx N).take (j + 1))[i]? = some (((mtx N).take (j + 1))[i]'(by omega)) := List.getElem?_eq_getElem _
      obtain ⟨r', e1, e2⟩ := paired_get hP3 hMi
      rw [hr0] at e1; cases e1
      generalize ((mtx N).take (j + 1))[i]'(by omega) = row at *
      walk_at "w"
      refine ⟨rfl, ?_⟩
      walk_at "w"
      refine w_slL (s4.seq (s3.seq (s2.seq e2))) fun z H5 hz5 s5 h5 => ?_
      rw [cut_take, ← List.map_take] at h5
      have hle : (Mat.lead (j + 1) (mtx N))[i]? = some (row.take (j + 1)) := by unfold Mat.lead; rw [List.getElem?_map, hMi]; rfl
      refine hKT2 _ _ s5 ⟨qs ++ [z], by simp, ?_, ?_⟩
      · rw [take_snoc hle]
        exact paired_snoc (paired_imp hq fun _ _ z => s5 _ _ z) h5
      · intro y
        rcases List.mem_append.mp y with y | y
        · exact hDq y
        · rw [List.mem_singleton.mp y] at h4D; rw [h4D] at hz5; cases hz5
    · rintro D acc H4 hD s4 h4 _ ⟨qs, rfl, hq, hDq⟩
      have hls := lead_sq (M := mtx N) (s := j + 1) (by omega) mtx_sq
      rw [List.length_map, hr3, List.take_of_length_le (l := Mat.lead (j + 1) (mtx N)) (by rw [hls.2, List.length_take]; omega)] at hq
      walk_at "w"
      refine ⟨j + 1, by omega, D, _, rfl, ⟨qs, h4, paired_imp hq fun _ _ z => sqL z⟩, hls.2, hls.1, lead_bd (mtx_bd hok), by omega, fun H5 s5 => ?_⟩
      refine hKT _ _ (s3.trans (s4.trans s5)) ?_
      rw [List.range_succ]; simp
  · rintro D acc H2 hD s2 h2 _ rfl
    walk_at "w"
    refine ⟨D, (List.range N.names.length).map fun i => Mat.det (i + 1) (Mat.lead (i + 1) (mtx N)), rfl, sqL h2, by simp; omega, fun m hm hall => ?_⟩
    walk_at "w"
    have hiff : N.Ends ↔ 0 < m := by
      constructor
      · intro h
        obtain ⟨i, hi, rfl⟩ := List.mem_map.mp hm
        exact h (i + 1) (by omega) (by rw [mtx_len]; have := List.mem_range.mp hi; omega)
      · intro h s h1 h2
        rw [mtx_len] at h2
        have := hall (Mat.det s (Mat.lead s (mtx N))) (List.mem_map.mpr ⟨s - 1, List.mem_range.mpr (by omega), by rw [show s - 1 + 1 = s by omega]⟩)
        omega
    by_cases he : N.Ends
    · rw [decide_eq_true (hiff.mp he)]
      exact k1 he H2 (s1.trans s2)
    · rw [decide_eq_false fun z => he (hiff.mpr z)]
      exact k2 he H2 (s1.trans s2)
end
end K1
namespace K1
open PySem PySem.Spec L2 PySem.Calls
open PyProof.Rows hiding St
section
variable {prog : Program} {w : World} {A : Around} {E : Value → Shared → Prop} {s : Shared} {x : Str} {t : Tok}
theorem ls_type {s : Shared} : s.TypeIs (.str x t) "str" := by first | rfl | exact rfl
theorem ls_hint {Q : Bool → Shared → Prop} (h : Q false s) : wpAny (model prog w) A (Builtin.List.listLengthHint (.str x t)) Q E s := by
  have hT : s.TypeIs (.str x t) "str" := ls_type
  unfold Builtin.List.listLengthHint
  refine wpAny_bind (wpAny_specialOf hT PySem.F.slot_str_len.lookup ?_)
  generalize hid : ("str.__len__" : String) = id0
  wp_delta
  rw [show splitId id0 = some ("str", "__len__") from by subst hid; decide +kernel]
  subst hid
  refine wpAny_bind (wpAny_isInstance (T := "str") (b := true) hT (by rw [isSubtype_type]; kernel_rfl) ?_)
  refine wpAny_ite_split (fun hab => absurd hab (by decide)) (fun _ => ?_)
  refine wpAny_ite_split (fun _ => ?_) (fun hab => absurd (by decide +kernel) hab)
  refine wpAny_bind (wpAny_typeOf hT ?_)
  exact wpAny_pure h
theorem ls_walks (hh : A.handled = none) (it : Addr) : Walks prog w A it [it] [it] x.cps.size (SignAt x) (fun i h => h.IsStrIter it (strIterType x) x t i) := by
  cases ha : x.cps.all (· < 128)
  · simp only [strIterType, ha, Bool.false_eq_true, if_false]
    exact Walks.strWide hh it x t
  · simp only [strIterType, ha, if_true]
    exact Walks.strAscii hh it x t
theorem ls_extend {R : Result → Shared → Prop} (hh : A.handled = none) (S : Addr) (res : Value) (c₀ : Nat) (hS : s.heap.get? S = some { cls := .type "list", data := .seq #[] c₀ })
    (hR : ∀ h' tk acc' c', (∀ b o, b ≠ S → s.heap.get? b = some o → h'.get? b = some o) → h'.get? S = some { cls := .type "list", dict := none, data := .seq acc' c', slots := #[] } → ItemsOf (SignAt x) acc' x.cps.size → R (.ok (.ret res)) { s with heap := h', toks := tk }) (hn : x.cps.size ≤ sizeLine) :
    wpAny (model prog w) A.in1 (Builtin.List.listExtendWith (.ref S) (.str x t) res)
      (fun fin s' => match fin with | .done f => R (.ok f) s' | .again c' => c'.quiet = true ∧ codeAny (model prog w) A c' R s') (fun e s' => R (.error e) s') s := by
  have hSI : S ≠ s.heap.objs.size := Nat.ne_of_lt (Heap.lt_size hS)
  have hSf : S ∉ [s.heap.objs.size] := by simp only [List.mem_cons, List.not_mem_nil, or_false]; exact hSI
  have W := ls_walks (prog := prog) (w := w) (A := A.in1) (x := x) (t := t) hh s.heap.objs.size
  have st : (s.heap.push { cls := .type (strIterType x), data := .fields #[.str x t, .int 0 0] }).IsStrIter s.heap.objs.size (strIterType x) x t 0 := ⟨_, Heap.get?_push_size _ rfl, rfl, rfl⟩
  have key : ∀ (h : Heap) (c₁ tk : Nat), h.IsStrIter s.heap.objs.size (strIterType x) x t 0 → (∀ b o, b ≠ S → s.heap.get? b = some o → h.get? b = some o) →
      h.get? S = some { cls := .type "list", data := .seq #[] c₁ } → codeAny (model prog w) A (.builtin "list.extend.loop" ⟨[.ref S, .ref s.heap.objs.size, res], []⟩) R { s with heap := h, toks := tk } := by
    intro h c₁ tk hst hk hS₁
    refine codeAny_extend_loopS W.toS hn S hSf res x.cps.size 0 _ #[] c₁ rfl (Nat.zero_le _) hst hS₁ (ItemsOf.nil _) fun s' acc' c' hm hS' hacc => ?_
    rw [Moved.eq_with hm]
    refine hR s'.heap s'.toks acc' c' (fun b o hb e => hm.heap b o (fun hmem => ?_) (hk b o hb e)) hS' hacc
    rcases List.mem_cons.mp hmem with e' | hmem
    · exact hb e'
    · exact absurd (Heap.lt_size e) (by rw [List.mem_singleton.mp hmem]; exact Nat.lt_irrefl _)
  unfold Builtin.List.listExtendWith
  refine wpAny_bind (wpAny_typeOf (T := "str") ls_type ?_)
  have h1 : Builtin.List.listSameRef (.ref S) (.str x t) = false := rfl
  have h2 : (Value.type "str" == Value.type "list") = false := by decide
  have h3 : (Value.type "str" == Value.type "tuple") = false := by decide
  simp only [h1, h2, h3, Bool.or_false, Bool.false_eq_true, if_false]
  refine wpAny_bind (wpAny_pyIter_strU ?_)
  have hS₁ := Heap.get?_push_of_some { cls := .type (strIterType x), data := .fields #[.str x t, .int 0 0] } hS
  refine wpAny_bind (wpAny_holding (ls_hint ?_))
  refine wpAny_ite_split (fun _ => ?_) (fun _ => wpAny_pure ⟨plainId_quiet PySem.F.plain_extend_loop _, key _ c₀ _ st (fun b o _ e => Heap.get?_push_of_some _ e) hS₁⟩)
  refine wpAny_bind (wpAny_rule ?_)
  refine wpAny_bind ?_
  show wpAny _ _ (updateSeq S (·.push .none) >>= fun _ => updateSeq S (·.pop)) _ _ _
  refine wpAny_bind (wpAny_updateSeq hS₁ rfl ?_)
  have hS₂ := Heap.get?_update_self (Obj.mapSeq (·.push Value.none)) hS₁ rfl
  refine wpAny_updateSeq (hz := by seq_fits) hS₂ rfl ?_
  have hS₃ := Heap.get?_update_self (Obj.mapSeq (·.pop)) hS₂ rfl
  refine wpAny_pure ⟨plainId_quiet PySem.F.plain_extend_loop _, key _ _ _ ?_ (fun b o hb e => ?_) hS₃⟩
  · refine W.frame 0 _ _ st fun b hb o e => ?_
    have hbS : b ≠ S := fun h => hSf (h ▸ hb)
    exact (Heap.get?_update_other _ _ (Ne.symm hbS)).trans ((Heap.get?_update_other _ _ (Ne.symm hbS)).trans e)
  · exact (Heap.get?_update_other _ _ (Ne.symm hb)).trans ((Heap.get?_update_other _ _ (Ne.symm hb)).trans (Heap.get?_push_of_some _ e))
theorem ls_init {R : Result → Shared → Prop} (hh : A.handled = none) (S : Addr) (hS : s.heap.get? S = some { cls := .type "list", data := .seq #[] })
    (hR : ∀ h' tk acc' c', (∀ b o, b ≠ S → s.heap.get? b = some o → h'.get? b = some o) → h'.get? S = some { cls := .type "list", dict := none, data := .seq acc' c', slots := #[] } → ItemsOf (SignAt x) acc' x.cps.size → R (.ok (.ret .none)) { s with heap := h', toks := tk }) (hn : x.cps.size ≤ sizeLine) :
    wpAny (model prog w) A.in1 (Builtin.«list.__init__» ⟨[.ref S, .str x t], []⟩)
      (fun fin s' => match fin with | .done f => R (.ok f) s' | .again c' => c'.quiet = true ∧ codeAny (model prog w) A c' R s') (fun e s' => R (.error e) s') s := by
  show wpAny _ _ (do let old ← Builtin.List.listItems (.ref S); Builtin.List.listUpdate (.ref S) (fun _ => #[]); letGo old.toList.reverse; Builtin.List.listExtendWith (.ref S) (.str x t) .none) _ _ s
  refine wpAny_bind ?_
  unfold Builtin.List.listItems
  refine wpAny_bind (wpAny_seqItems hS rfl (wpAny_pure ?_))
  show wpAny _ _ (updateSeq S (fun _ => #[]) >>= fun _ => letGo (#[] : Array Value).toList.reverse >>= fun _ => Builtin.List.listExtendWith (.ref S) (.str x t) .none) _ _ s
  refine wpAny_bind (wpAny_updateSeq hS rfl ?_)
  have hS₂ := Heap.get?_update_self (Obj.mapSeq (fun _ => (#[] : Array Value))) hS rfl
  have oth : ∀ b o, b ≠ S → s.heap.get? b = some o → (s.heap.update S (Obj.mapSeq (fun _ => (#[] : Array Value)))).get? b = some o :=
    fun b o hb e => (Heap.get?_update_other _ _ (Ne.symm hb)).trans e
  refine wpAny_bind (wpAny_letGo ?_)
  refine ls_extend hh S .none _ hS₂ (fun h' tk acc' c' hk hS' hacc => ?_) hn
  exact hR h' tk acc' c' (fun b o hb e => hk b o hb (oth b o hb e)) hS' hacc
theorem ls_call {Q : Value → Shared → Prop} (hh : A.handled = none) (hn : x.cps.size ≤ sizeLine)
    (hQ : ∀ h' tk acc' c', (∀ b o, s.heap.get? b = some o → h'.get? b = some o) → h'.get? s.heap.objs.size = some { cls := .type "list", dict := none, data := .seq acc' c', slots := #[] } → ItemsOf (SignAt x) acc' x.cps.size → Q (.ref s.heap.objs.size) { s with heap := h', toks := tk }) :
    wpAny (model prog w) A (call (.type "list") [.str x t]) Q E s := by
  refine callType_codes (Q₁ := fun obj s₁ => obj = .ref s.heap.objs.size ∧ s₁ = { s with heap := s.heap.push { cls := .type "list", data := .seq #[] } }) PySem.F.called_list (PySem.F.typeCall_list_1 _) PySem.F.entry_list_init
    (code_list_new _ ⟨rfl, rfl⟩) fun obj s₁ h₁ => ?_
  obtain ⟨rfl, rfl⟩ := h₁
  have hS : (s.heap.push { cls := .type "list", data := .seq #[] }).get? s.heap.objs.size = some { cls := .type "list", data := .seq #[] } := Heap.get?_push_size _ rfl
  refine ⟨⟨_, hS, rfl⟩, PySem.F.args_list_init_2 _ _, ls_init (A := A.in1) hh _ hS (fun h' tk acc' c' hk hS' hacc => ?_) hn⟩
  exact ⟨rfl, hQ h' tk acc' c' (fun b o e => hk b o (Nat.ne_of_lt (Heap.lt_size e)) (Heap.get?_push_of_some _ e)) hS' hacc⟩
end
def rListStr : List V → Hp → VK → Prop := fun xs H Q => ∃ z, xs = [.str z] ∧ z.cps.size ≤ sizeLine ∧ ∀ p, H p = none → Q (.ref p) (upd H p (.lst (z.cps.toList.map fun c => .str ⟨#[c]⟩)))
theorem signs_vals : ∀ {cs : List Nat} {us : List Value}, us.length = cs.length → (∀ (j : Nat) (v : Value), us[j]? = some v → ∃ c u, cs[j]? = some c ∧ v = .str ⟨#[c]⟩ u) → Vals (cs.map fun c => V.str ⟨#[c]⟩) us
  | [], [], _, _ => .nil
  | c :: cs, v :: us, hl, h => by
    obtain ⟨c', u, e, rfl⟩ := h 0 v rfl
    cases Option.some.inj e
    exact .cons ⟨u, rfl⟩ (signs_vals (Nat.succ.inj hl) fun j v ej => h (j + 1) v ej)
  | [], _ :: _, hl, _ => nomatch hl
  | _ :: _, [], hl, _ => nomatch hl
theorem k_listStr {X : Cx} (hc : X.calm = true) : CallR X (.type "list") rListStr := by
  intro pins s σ H xs us Q I r q
  obtain ⟨z, ex, hz, q⟩ := q
  subst ex
  obtain ⟨u, eu, rx⟩ := vals1 r
  subst eu
  obtain ⟨t, rfl⟩ := (show ∃ t, u = Value.str z t from rx)
  refine ls_call (I.ok.hd hc) hz fun h' tk acc c' hk hD hacc => ?_
  have hv : Vals (z.cps.toList.map fun c => V.str ⟨#[c]⟩) acc.toList := signs_vals (by rw [Array.length_toList, Array.length_toList]; exact hacc.1) fun j v e => by
    obtain ⟨c, u, h1, h2⟩ := hacc.2 j v (by rw [← Array.getElem?_toList]; exact e)
    exact ⟨c, u, by rw [Array.getElem?_toList]; exact h1, h2⟩
  exact ⟨.ref s.heap.objs.size, upd H s.heap.objs.size (.lst (z.cps.toList.map fun c => .str ⟨#[c]⟩)), I.laid (t' := tk) hk (Nat.le_refl _)
    (show ObjOk X.prog X.w _ _ _ (.lst (z.cps.toList.map fun c => .str ⟨#[c]⟩)) from ⟨by rw [List.length_map, Array.length_toList]; exact hz, acc.toList, c', hv, by rw [Array.toArray_toList]; exact hD⟩), rfl, q _ (I.hok.fresh (Nat.le_refl _))⟩
end K1
namespace K1
open PySem PySem.Spec L2
open PyProof.Rows hiding St
local macro_rules | `(tactic| walk_at "hp") => `(tactic| first | assumption | exact upd_same | (refine' Same.to ?wse ?wsh; (case wse => assumption); (case wsh => walk_at "hp")) | ((rw [upd_ne (by first | assumption | (apply Ne.symm; assumption))]); walk_at "hp"))
local macro_rules | `(tactic| walk_at "sq") => `(tactic| first | assumption | exact sqL (by walk_at "hp") | exact sqT (by walk_at "hp") | (refine' Same.seqTo ?wse ?wsh; (case wse => assumption); (case wsh => walk_at "sq")) | (refine' Same.sqtTo ?wse ?wsh; (case wse => assumption); (case wsh => walk_at "sq")))
local macro_rules | `(tactic| walk_at "w1") => `(tactic| first
  | with_reducible refine w_asg ?_
  | with_reducible refine w_c ?_
  | with_reducible refine w_gname ?_
  | with_reducible refine w_if ?_
  | with_reducible refine w_ifs ?_
  | with_reducible refine w_test ?_
  | with_reducible refine w_tB ?_
  | with_reducible refine w_bl ?_
  | with_reducible refine w_op ?_
  | with_reducible refine w_nil ?_
  | with_reducible refine w_cons ?_
  | with_reducible refine w_cb ?_
  | with_reducible refine w_I0 ?_
  | with_reducible refine w_lst ?_
  | with_reducible refine w_tup ?_
  | with_reducible refine w_sl ?_
  | with_reducible refine w_noPart ?_
  | with_reducible refine w_part ?_
  | with_reducible refine w_int ?_
  | with_reducible refine w_par ?_
  | with_reducible refine w_two ?_
  | with_reducible refine w_par3 ?_
  | with_reducible refine w_three ?_
  | with_reducible refine w_ret ?_
  | with_reducible refine w_drop ?_
  | with_reducible refine w_chain ?_
  | with_reducible refine w_and ?_
  | with_reducible refine w_or ?_
  | with_reducible refine w_not ?_
  | with_reducible refine w_notV ?_
  | with_reducible refine w_andV ?_
  | with_reducible refine w_orV ?_
  | with_reducible refine w_int1 ?_
  | with_reducible refine w_true ?_
  | with_reducible refine w_false ?_
  | with_reducible refine w_for ?_
  | with_reducible refine w_rng1 ?_
  | with_reducible refine w_rng2 ?_
  | with_reducible refine w_iList ?_
  | with_reducible refine w_iTup ?_
  | with_reducible refine w_dget ?_
  | with_reducible refine w_din ?_
  | with_reducible refine w_dnotin ?_
  | with_reducible refine w_dput ?_
  | with_reducible refine w_dget2 ?_
  | with_reducible refine w_fld ?_
  | with_reducible refine w_dnew ?_
  | with_reducible refine w_lc ?_
  | with_reducible refine w_dc ?_
  | with_reducible refine w_iStr ?_
  | with_reducible refine w_str ?_
  | with_reducible refine w_iEnum ?_
  | with_reducible refine w_iZip ?_
  | with_reducible refine w_yes ?_
  | with_reducible refine w_gtup ?_
  | with_reducible refine w_gcons ?_
  | with_reducible refine w_rcons ?_
  | with_reducible refine w_gnil ?_
  | with_reducible refine w_leS ?_
  | with_reducible refine w_isN ?_
  | with_reducible refine w_notN ?_
  | with_reducible refine w_call ?_
  | with_reducible refine w_meth ?_
  | with_reducible refine w_bm ?_
  | with_reducible refine w_bm0 ?_
  | with_reducible refine isi_int ?_
  | with_reducible refine isi_bl_int ?_
  | with_reducible refine isi_int_bl ?_
  | with_reducible refine isi_bl ?_
  | with_reducible refine isi_str ?_
  | with_reducible refine isi_non_dict ?_
  | with_reducible refine isi_int_dict ?_
  | with_reducible refine w_ntrue ?_
  | with_reducible refine w_nfalse ?_
  | with_reducible refine w_wt ?_
  | with_reducible refine w_starD ?_
  | with_reducible refine w_starT ?_
  | with_reducible refine w_listVals ?_
  | with_reducible refine w_iEnumT ?_
  | with_reducible refine w_iEnumS ?_
  | with_reducible refine w_enumS ?_
  | with_reducible refine w_frz ?_
  | with_reducible refine w_iItems ?_
  | with_reducible refine w_iKeys ?_
  | with_reducible refine w_iVals ?_
  | with_reducible refine w_strS ?_
  | with_reducible refine w_daug ?_
  | with_reducible refine w_rAdd ?_
  | with_reducible refine w_sfld ?_
  | ((with_reducible refine' w_var ?wsd ?_); (case wsd => first | rfl | assumption))
  | ((with_reducible refine' w_eq ?wsd ?_); (case wsd => rfl))
  | ((with_reducible refine' w_ne ?wsd ?_); (case wsd => rfl))
  | ((with_reducible refine' w_lenL ?wsd ?_); (case wsd => walk_at "sq"))
  | ((with_reducible refine' w_lenT ?wsd ?_); (case wsd => walk_at "sq"))
  | ((with_reducible refine' w_itL ?wsd ?_); (case wsd => walk_at "sq"))
  | ((with_reducible refine' w_itT ?wsd ?_); (case wsd => walk_at "sq"))
  | ((with_reducible refine' w_rng1v ?wsd ?_); (case wsd => omega))
  | ((with_reducible refine' w_rng2v ?wsd ?_); (case wsd => omega))
  | ((with_reducible refine' w_I ?wsd ?_); (case wsd => walk_at "side"))
  | ((with_reducible refine' w_dtrue ?wsd ?_); (case wsd => first | assumption | omega | rfl | decide))
  | ((with_reducible refine' w_dfalse ?wsd ?_); (case wsd => first | assumption | omega | decide))
  | ((with_reducible refine' w_ndtrue ?wsd ?_); (case wsd => first | assumption | omega | rfl | decide))
  | ((with_reducible refine' w_ndfalse ?wsd ?_); (case wsd => first | assumption | omega | decide))
  | ((with_reducible refine' w_stD ?wsd ?_); (case wsd => walk_at "hp"))
  | ((with_reducible refine' w_stT ?wsd ?_); (case wsd => walk_at "sq"))
  | ((with_reducible refine' w_stL ?wsd ?_); (case wsd => walk_at "sq"))
  | ((with_reducible refine' w_isD ?wsd ?_); (case wsd => walk_at "hp"))
  | ((with_reducible refine' isi_tup ?wsd ?_); (case wsd => walk_at "sq"))
  | ((with_reducible refine' isi_dict ?wsd ?_); (case wsd => walk_at "hp"))
  | ((with_reducible refine' w_lenDv ?wsd ?_); (case wsd => walk_at "hp"))
  | ((with_reducible refine' w_enum ?wsd ?_); (case wsd => walk_at "sq"))
  | ((with_reducible refine' w_enumT ?wsd ?_); (case wsd => walk_at "sq"))
  | ((with_reducible refine' w_tyL ?wsd ?_); (case wsd => walk_at "sq")))
local macro_rules | `(tactic| walk_at "side") => `(tactic| first | omega | decide | (constructor <;> omega) | (constructor <;> decide) | (simp only [List.length_map, List.length_append, List.length_cons, List.length_nil, CDivN, CMul, CPow]; first | omega | decide | (constructor <;> omega)))
local macro_rules | `(tactic| walk_at "w") => `(tactic| repeat (walk_at "w1"))
def TP (K : PySem.W.Frag) (H H' : Hp) : Prop := ∀ a xs, SqT K H a xs → SqT K H' a xs
theorem TP.same {K : PySem.W.Frag} {H H' : Hp} (e : Same H H') : TP K H H' := fun _ _ h => Same.sqt e h
theorem TP.refl {K : PySem.W.Frag} {H : Hp} : TP K H H := fun _ _ h => h
theorem TP.trans {K : PySem.W.Frag} {H H1 H2 : Hp} (a : TP K H H1) (b : TP K H1 H2) : TP K H H2 := fun _ _ h => b _ _ (a _ _ h)
theorem TP.lst {K : PySem.W.Frag} {H : Hp} {l : Addr} {xs : List V} {o : HO} (h : H l = some (.lst xs)) : TP K H (upd H l o) := fun _ _ z => sqT_updL z h
theorem TP.dct {K : PySem.W.Frag} {H : Hp} {l : Addr} {xs : List (Key × V)} {o : HO} (h : H l = some (.dK xs)) : TP K H (upd H l o) := fun _ _ z => sqT_upd z h
theorem RowAt.tp {K : PySem.W.Frag} {H H' : Hp} {a : Addr} {r : List (List Str)} (e : TP K H H') (h : RowAt K H a r) : RowAt K H' a r := by
  obtain ⟨ds, h1, h2⟩ := h
  exact ⟨ds, e _ _ h1, paired_imp h2 fun _ _ z => e _ _ z⟩
theorem KnAt.tp {K : PySem.W.Frag} {H H' : Hp} {a : Addr} {fr tn : List (List Str)} (e : TP K H H') (h : KnAt K H a fr tn) : KnAt K H' a fr tn := by
  obtain ⟨f, t, h1, h2, h3⟩ := h
  exact ⟨f, t, e _ _ h1, h2.tp e, h3.tp e⟩
def DrOk (names : List Str) (dr : List Str) : Prop := dr.length ≤ 2 ∧ ∀ t ∈ dr, t ∈ names ∨ t = "o" ∨ t = "p"
def KnI (K : PySem.W.Frag) (H : Hp) (d : Addr) (names : List Str) (i : Nat) : Prop := ∃ (fr tn : Str → List (List Str)) (ka : Str → Addr), H d = some (.dK (mapK (names.take i) fun k => .ref (ka k))) ∧
  ∀ j k, names[j]? = some k → j < i → KnAt K H (ka k) (fr k) (tn k) ∧ (fr k).length ≤ 2 ∧ (1 ≤ (tn k).length ∧ (tn k).length ≤ 5) ∧ (∀ dr ∈ fr k ++ tn k, DrOk names dr) ∧ ∀ l, names[j + 1]? = some l → [l] ∈ tn k
def spLawKnots (K : PySem.W.Frag) : Sp := fun vs H Q _ => ∃ (a : Addr) (p : Int) (lossy : Bool), vs = [.ref a, .int p, .bl lossy] ∧ Scr K H a ∧ 0 ≤ p ∧ p ≤ 1000 ∧ ∀ (N : NetD) d H', N.Ok → Same H H' → KnotsAt K H' d N → Q (.ref d) H'
abbrev N_law_knots : List Str := ["_law_script", "_law_at", "_law_lossy", "_law_names", "_law_knots_here", "_law_targets", "_law_spot", "_law_name", "_law_rows", "_law_part", "_law_row", "_law_first", "_law_turn", "_law_many", "_law_last", "_law_one"]
theorem sc_law_knots : FnScope N_law_knots ["_law_script", "_law_at", "_law_lossy"] (defScope s_law_knots) := ⟨rfl, rfl, rfl, by decide +kernel, rfl, by decide +kernel, by decide +kernel⟩
abbrev nmT (n : Nat) : Str := ⟨(([97, 98, 99, 100] : List Nat).take n).toArray⟩
theorem nm_signs (n : Nat) : ((nmT n).cps.toList.map fun c => (⟨#[c]⟩ : Str)) = kl.take n := by
  show (([97, 98, 99, 100] : List Nat).take n).map (fun c => (⟨#[c]⟩ : Str)) = kl.take n
  rw [List.map_take]
  congr 1
theorem catA_row {K : PySem.W.Frag} {H : Hp} {a b : Addr} {r r' : List (List Str)} {Q : VK} (h1 : RowAt K H a r) (h2 : RowAt K H b r') (hne : r ≠ []) (hl : r.length + r'.length ≤ 1000) (q : ∀ c H', Same H H' → RowAt K H' c (r ++ r') → Q (.ref c) H') : rCatA K (.ref a) (.ref b) H Q := by
  obtain ⟨ds, a1, a2⟩ := h1
  obtain ⟨es, b1, b2⟩ := h2
  have l1 := paired_len a2
  have l2 := paired_len b2
  refine ⟨a, b, _, _, rfl, rfl, a1, b1, sz (by rw [List.length_map, List.length_map]; omega), fun z => ?_, fun _ z => ?_, fun _ _ c hc => ?_⟩
  · have : ds = [] := by simpa using z
    subst this
    exact absurd (List.length_eq_zero_iff.mp l1.symm) hne
  · have : es = [] := by simpa using z
    subst this
    obtain rfl : r' = [] := List.length_eq_zero_iff.mp l2.symm
    rw [List.append_nil] at q
    exact q a H (Same.refl _) ⟨ds, a1, a2⟩
  · refine q c _ (Same.alloc hc) ⟨ds ++ es, ?_, paired_imp (paired_app a2 b2) fun _ _ z => Same.sqt (Same.alloc hc) z⟩
    rw [List.map_append]; exact sqT upd_same
section
variable {P : Program} {w : World} {K : PySem.W.Frag} {mg : Str → Option Value} {base : Heap}
theorem ok_law_knots (T : TX K mg) : Fok P w K mg base CX0 2 (He.ga K "_law_knots") ["_law_script", "_law_at", "_law_lossy"] [] (spLawKnots K) := by
  obtain ⟨fd, F⟩ := T.fn_law_knots
  refine ⟨⟨fd, [], ?_, F.bindsN fun _ _ _ _ _ _ us hl => match us, hl with | [_, _, _], _ => rfl, .nil⟩, F.kp⟩
  refine F.ok sc_law_knots (fun vs H Q E h => ?_) (fun cdv A outer s H vs Q E hr h => ?_)
  · obtain ⟨_, _, _, rfl, _⟩ := h
    rfl
  obtain ⟨a, p, lossy, rfl, hS, hp1, hp2, k⟩ := h
  have hu := hu_of hr
  have O_law_draw := @ok_draw P w K mg base T
  refine ssx_nox ?_
  refine ssx_cons (ps_set (i := 3) sc_law_knots.nd rfl (Or.inl rfl) (pe_slice sl_str pe_str po_none (po_some (pe_op op_add pe_int (pe_callF O_law_draw (hr.mono (by decide)) rfl T.g__law_draw pass0 (pa_cons (pv 0) (pa_cons (pv 1) (pa_cons pe_int pa_nil)))))))) ?_
  walk_at "w"
  refine draw_use hS ⟨hp1, by omega⟩ ⟨by decide, by decide⟩ fun r H1 hr4 s1 => ?_
  walk_at "w"
  obtain ⟨n, hn⟩ : ∃ n, n = 1 + r := ⟨_, rfl⟩
  have hn1 : 1 ≤ n ∧ n ≤ 4 := by omega
  have ecut : cutS "abcd" none (some (1 + (r : Int))) = nmT n := by
    rw [show (1 + (r : Int)) = ((n : Nat) : Int) by omega]
    have : n = 1 ∨ n = 2 ∨ n = 3 ∨ n = 4 := by omega
    rcases this with rfl | rfl | rfl | rfl <;> decide +kernel
  refine ⟨_, rfl, by decide +kernel, ?_⟩
  rw [ecut]
  walk_at "w"
  have hsz : (nmT n).cps.size = n := by
    show (([97, 98, 99, 100] : List Nat).take n).toArray.size = n
    simp; omega
  refine ssx_cons (ps_asg (pe_tup (pa_cons pe_dnewK (pa_cons (pe_op op_cat (pe_callTy (k_listStr rfl) rfl T.f_list bt_list (pa_cons (pv 3) pa_nil)) (pe_lst (pa_cons pe_str (pa_cons pe_str pa_nil)))) pa_nil))) (qg_tup (n := 2) K rfl (pgs_cons (pg_name (i := 4) sc_law_knots.nd rfl (Or.inl rfl)) (pgs_cons (pg_name (i := 5) sc_law_knots.nd rfl (Or.inr rfl)) pgs_nil)))) ?_
  walk_at "w"
  refine w_new fun d H2 hd s2 h2 => ?_
  walk_at "w"
  refine ⟨_, rfl, by rw [hsz]; exact sz (by omega), fun l3 hl3 => ?_⟩
  have s3 : Same H2 (upd H2 l3 (.lst ((nmT n).cps.toList.map fun c => V.str ⟨#[c]⟩))) := Same.alloc hl3
  have h3 : (upd H2 l3 (.lst ((nmT n).cps.toList.map fun c => V.str ⟨#[c]⟩))) l3 = some (.lst ((kl.take n).map V.str)) := by
    rw [upd_same, ← nm_signs, List.map_map]; rfl
  generalize upd H2 l3 (.lst ((nmT n).cps.toList.map fun c => V.str ⟨#[c]⟩)) = H3 at *
  walk_at "w"
  refine w_newL (by simp) fun l4 H4 hl4 s4 h4 => ?_
  have hkn : (kl.take n).length = n := by rw [List.length_take, show kl.length = 4 from rfl]; omega
  refine ⟨l3, l4, _, _, rfl, rfl, s4 _ _ h3, h4, sz (by rw [List.length_map]; simp; omega), fun lt hlt => ?_⟩
  obtain ⟨ts, hts⟩ : ∃ ts : List Str, ts = kl.take n ++ (["o", "p"] : List Str) := ⟨_, rfl⟩
  have htl : ts.length = n + 2 := by rw [hts, List.length_append, hkn]; rfl
  have s5 : Same H4 (upd H4 lt (.lst ((kl.take n).map V.str ++ [.str "o", .str "p"]))) := Same.alloc hlt
  have h5 : (upd H4 lt (.lst ((kl.take n).map V.str ++ [.str "o", .str "p"]))) lt = some (.lst (ts.map V.str)) := by rw [upd_same, hts, List.map_append]; rfl
  generalize upd H4 lt (.lst ((kl.take n).map V.str ++ [.str "o", .str "p"])) = H5 at *
  walk_at "w"
  refine w_newT (by simp) fun tp H6 htp s6 h6 => ?_
  walk_at "w"
  refine w_tu (sqT h6) rfl ?_
  walk_at "w"
  have s16 := s2.trans (s3.trans (s4.trans (s5.trans s6)))
  have hd0 : H d = none := s1.free hd
  have h6d : H6 d = some (.dK []) := s6 _ _ (s5 _ _ (s4 _ _ (s3 _ _ h2)))
  have h6t := s6 _ _ h5
  have s06 := s1.trans s16
  have hlt0 : H lt = none := (s1.trans (s2.trans (s3.trans s4))).free hlt
  have hltd : lt ≠ d := fun z => by rw [z, h6d] at h6t; cases h6t
  clear h2 h3 h4 h5 h6 htp hl3 hl4 hlt s2 s3 s4 s5 s6 s1 s16
  refine ssx_cons (ps_for PassesOwn.never rfl (pi_enumS rfl T.f_enumerate (pa_cons (pv 3) pa_nil)) (qg_tup (n := 2) K rfl (pgs_cons (pg_name (i := 6) sc_law_knots.nd rfl (Or.inl rfl)) (pgs_cons (pg_name (i := 7) sc_law_knots.nd rfl (Or.inl rfl)) pgs_nil))) SSX.ps) ?_
  walk_at "w"
  refine for_walk walk_enumS (fun i σ H7 => (∃ o6 o7 o8 o9 o10 o11 o12 o13 o14, σ = [some (.ref a), some (.int p), some (.bl lossy), some (.str (nmT n)), some (.ref d), some (.ref lt), o6, o7, o8, o9, o10, o11, o12, o13, o14, none]) ∧ Same H H7 ∧ H7 lt = some (.lst (ts.map V.str)) ∧ KnI K H7 d (kl.take n) i) ?_ (fun _ _ _ _ _ => trivial) ?_ ?_
  · exact ⟨⟨_, _, _, _, _, _, _, _, _, rfl⟩, s06, h6t, fun _ => [], fun _ => [], fun _ => d, h6d, fun j k _ hj => absurd hj (Nat.not_lt_zero _)⟩
  · rintro i x σ H7 _ hi ⟨⟨o6, o7, o8, o9, o10, o11, o12, o13, o14, rfl⟩, s7, h7t, hI⟩ ⟨T7, _, y, rfl, hT7, rfl, e0, ey⟩
    rw [hsz] at hi
    replace ey : Option.map (fun c => V.str ⟨#[c]⟩) (nmT n).cps[i]? = some y := ey
    have hc : ∃ c, (nmT n).cps[i]? = some c ∧ y = .str ⟨#[c]⟩ := by
      cases e : (nmT n).cps[i]? with
      | none => rw [e] at ey; cases ey
      | some c => rw [e] at ey; exact ⟨c, rfl, (Option.some.inj ey).symm⟩
    cases e0
    obtain ⟨c, hc1, rfl⟩ := hc
    have hnm : (kl.take n)[i]? = some ⟨#[c]⟩ := by
      rw [← nm_signs, List.getElem?_map, Array.getElem?_toList, hc1]; rfl
    refine g_pair ?_
    have e8 : Same H7 (upd H7 T7 (.tup [.int (i : Nat), .str ⟨#[c]⟩])) := Same.alloc hT7
    have s8 := s7.trans e8
    have h8t := e8 _ _ h7t
    obtain ⟨fr, tn, ka, h7d, hIk⟩ := hI
    have h8d := e8 _ _ h7d
    replace hIk := fun j k h1 h2 => (And.intro ((hIk j k h1 h2).1.same e8) (hIk j k h1 h2).2)
    generalize upd H7 T7 (.tup [.int (i : Nat), .str ⟨#[c]⟩]) = H8 at *
    clear e8 hT7 h7t h7d s7
    refine ssx_cons (ps_set (i := 8) sc_law_knots.nd rfl (Or.inl rfl) (pe_lst pa_nil)) ?_
    walk_at "w"
    refine w_newL (by simp) fun lr H9 hlr s9 h9r => ?_
    walk_at "w"
    have s09 := s8.trans s9
    have h9t := s9 _ _ h8t
    have h9d := s9 _ _ h8d
    have hlr0 : H lr = none := s8.free hlr
    have hrd : lr ≠ d := fun z => by rw [z, h8d] at hlr; cases hlr
    have hrt : lr ≠ lt := fun z => by rw [z, h8t] at hlr; cases hlr
    refine ssx_cons (ps_for PassesOwn.never rfl (pi_range1 rfl T.f_range (pa_cons pe_int pa_nil)) (pg_name (i := 9) sc_law_knots.nd rfl (Or.inl rfl)) SSX.ps) ?_
    walk_at "w"
    refine for_range (n := 2) (fun j σ HA => (∃ o9 o10 o11 o12 o13 o14, σ = [some (.ref a), some (.int p), some (.bl lossy), some (.str (nmT n)), some (.ref d), some (.ref lt), some (.int (i : Nat)), some (.str ⟨#[c]⟩), some (.ref lr), o9, o10, o11, o12, o13, o14, none]) ∧ Same H HA ∧ HA lt = some (.lst (ts.map V.str)) ∧ HA d = some (.dK (mapK ((kl.take n).take i) fun k => .ref (ka k))) ∧ TP K H9 HA ∧
      ∃ (as : List Addr) (rws : List (List (List Str))), HA lr = some (.lst (as.map V.ref)) ∧ Paired (RowAt K HA) as rws ∧ rws.length = j ∧ (∀ rw ∈ rws, ∀ dr ∈ rw, DrOk (kl.take n) dr) ∧ (∀ r0, rws[0]? = some r0 → r0.length ≤ 2) ∧ ∀ r1, rws[1]? = some r1 → 1 ≤ r1.length ∧ r1.length ≤ 3) ?_ ?_ ?_
    · exact ⟨⟨_, _, _, _, _, _, rfl⟩, s09, h9t, h9d, TP.refl, [], [], h9r, .nil, rfl, by simp, by simp, by simp⟩
    · rintro j σ HA hj2 ⟨⟨o9, o10, o11, o12, o13, o14, rfl⟩, sA, hAt, hAd, tpA, as, rws, hAr, hPA, hrl, hdr, hr0, hr1⟩
      rw [Int.zero_add]
      walk_at "w"
      refine ssx_cons (ps_asg (pe_tup (pa_cons (pe_lst pa_nil) (pa_cons (pe_op op_add (pe_op op_add (pe_op op_add (pv 1) pe_int) (pe_op op_mul pe_int (pv 6))) (pe_op op_mul pe_int (pv 9))) pa_nil))) (qg_tup (n := 2) K rfl (pgs_cons (pg_name (i := 10) sc_law_knots.nd rfl (Or.inl rfl)) (pgs_cons (pg_name (i := 11) sc_law_knots.nd rfl (Or.inr rfl)) pgs_nil)))) ?_
      walk_at "w"
      refine w_newL (by simp) fun lq HB hlq sB hBq => ?_
      walk_at "w"
      refine w_newT (by simp) fun tq HC htq sC hC => ?_
      walk_at "w"
      refine w_tu (sqT hC) rfl ?_
      walk_at "w"
      have eAC := sB.trans sC
      have s0C := sA.trans eAC
      have hCt := eAC _ _ hAt
      have hCd := eAC _ _ hAd
      have hCr := eAC _ _ hAr
      have hCq := sC _ _ hBq
      have hPC := paired_imp hPA fun _ _ z => RowAt.same eAC z
      have tpC := tpA.trans (TP.same eAC)
      have hlq0 : H lq = none := sA.free hlq
      have hqd : lq ≠ d := fun z => by rw [z, hAd] at hlq; cases hlq
      have hqt : lq ≠ lt := fun z => by rw [z, hAt] at hlq; cases hlq
      have hqr : lq ≠ lr := fun z => by rw [z, hAr] at hlq; cases hlq
      clear hC htq hBq sB sC eAC hPA tpA hAt hAd hAr hlq
      obtain ⟨fi, hfi⟩ : ∃ fi : Int, fi = p + 10 + 40 * ((i : Nat) : Int) + 12 * ((j : Nat) : Int) := ⟨_, rfl⟩
      rw [← hfi]
      have hfb : 0 ≤ fi ∧ fi ≤ 2000 := by omega
      refine ssx_cons (ps_for PassesOwn.never rfl (pi_range1 rfl T.f_range (pa_cons (pe_ifExp (pt_cmpR op_eq (pv 9) pe_int (nomark _)) (pe_callF O_law_draw (hr.mono (by decide)) rfl T.g__law_draw pass0 (pa_cons (pv 0) (pa_cons (pv 11) (pa_cons pe_int pa_nil)))) (pe_op op_add pe_int (pe_callF O_law_draw (hr.mono (by decide)) rfl T.g__law_draw pass0 (pa_cons (pv 0) (pa_cons (pv 11) (pa_cons pe_int pa_nil)))))) pa_nil)) (pg_name (i := 12) sc_law_knots.nd rfl (Or.inr rfl)) SSX.ps) ?_
      walk_at "w"
      refine w_dcases (fun hj0 => ?_) fun hj0 => ?_
      · walk_at "w"
        refine draw_use (hS.same s0C) ⟨hfb.1, by omega⟩ ⟨by decide, by decide⟩ fun cc HD hcc sD => ?_
        walk_at "w"
        have hj0' : j = 0 := by simp at hj0; omega
        have hccb : (j = 0 → cc ≤ 2) ∧ (j = 1 → 1 ≤ cc ∧ cc ≤ 3) := by constructor <;> intro _ <;> omega
        rw [Int.toNat_natCast]
        refine for_range (n := cc) (fun t σ HE => (∃ o12 o13, σ = [some (.ref a), some (.int p), some (.bl lossy), some (.str (nmT n)), some (.ref d), some (.ref lt), some (.int (i : Nat)), some (.str ⟨#[c]⟩), some (.ref lr), some (.int (j : Nat)), some (.ref lq), some (.int fi), o12, o13, o14, none]) ∧ Same H HE ∧ HE lt = some (.lst (ts.map V.str)) ∧ HE d = some (.dK (mapK ((kl.take n).take i) fun k => .ref (ka k))) ∧ HE lr = some (.lst (as.map V.ref)) ∧ TP K HC HE ∧
            ∃ (qs : List Addr) (drs : List (List Str)), HE lq = some (.lst (qs.map V.ref)) ∧ Paired (fun q dr => SqT K HE q (dr.map V.str)) qs drs ∧ drs.length = t ∧ ∀ dr ∈ drs, DrOk (kl.take n) dr) ?_ ?_ ?_
        · exact ⟨⟨_, _, rfl⟩, s0C.trans sD, sD _ _ hCt, sD _ _ hCd, sD _ _ hCr, TP.same sD, [], [], sD _ _ hCq, .nil, rfl, by simp⟩
        · rintro t σ HE ht ⟨⟨o12, o13, rfl⟩, sE, hEt, hEd, hEr, tpE, qs, drs, hEq, hPE, hdl, hdo⟩
          rw [Int.zero_add]
          walk_at "w"
          refine ssx_cons (ps_set (i := 13) sc_law_knots.nd rfl (Or.inl rfl) (pe_ix (q_ixT K) (pe_tup (pa_cons pe_int (pa_cons pe_int (pa_cons pe_int (pa_cons pe_int (pa_cons pe_int pa_nil)))))) (pe_callF O_law_draw (hr.mono (by decide)) rfl T.g__law_draw pass0 (pa_cons (pv 0) (pa_cons (pe_op op_add (pe_op op_add (pv 11) pe_int) (pe_op op_mul pe_int (pv 12))) (pa_cons pe_int pa_nil)))) (fun _ _ => rfl))) ?_
          walk_at "w"
          refine w_newT (by simp) fun t5 HF ht5 sF hF5 => ?_
          walk_at "w"
          refine draw_use (hS.same (sE.trans sF)) ⟨by omega, by omega⟩ ⟨by decide, by decide⟩ fun r5 HG hr5 sG => ?_
          obtain ⟨mm, hmm, hm2⟩ : ∃ mm : Nat, ([V.int 1, V.int 1, V.int 1, V.int 0, V.int 2] : List V)[r5]? = some (V.int mm) ∧ mm ≤ 2 := by
            have : r5 = 0 ∨ r5 = 1 ∨ r5 = 2 ∨ r5 = 3 ∨ r5 = 4 := by omega
            rcases this with rfl | rfl | rfl | rfl | rfl
            · exact ⟨1, rfl, by decide⟩
            · exact ⟨1, rfl, by decide⟩
            · exact ⟨1, rfl, by decide⟩
            · exact ⟨0, rfl, by decide⟩
            · exact ⟨2, rfl, by decide⟩
          refine w_ixT (v := .int mm) (sqT (sG _ _ hF5)) (atI_nat hmm) ?_
          walk_at "w"
          have eEG := sF.trans sG
          have sHG := sE.trans eEG
          refine ssx_cons (ps_expr (q_bm K PySem.F.plainAttrs_list PySem.F.slot_list_append PySem.F.type_list_append mt_append (pv 10) (pa_cons (pe_callTy (q_tuple K) rfl T.f_tuple bt_tuple (pa_cons (pe_lc (own := [("_law_one", 15)]) rfl sc_law_knots.nd (pi_range1 rfl T.f_range (pa_cons (pv 13) pa_nil)) (blkOk_by (N := N_law_knots) (sc := defScope s_law_knots) (by decide +kernel)) (fun _ _ _ _ _ => (pg_name (i := 15) sc_law_knots.nd rfl (Or.inl rfl))) (fun _ _ _ _ _ => pts_nil) (fun _ _ _ _ _ => (pe_ix (q_ixL K) (pv 5) (pe_callF O_law_draw (hr.mono (by decide)) rfl T.g__law_draw pass0 (pa_cons (pv 0) (pa_cons (pe_op op_add (pe_op op_add (pe_op op_add (pv 11) pe_int) (pe_op op_mul pe_int (pv 12))) (pv 15)) (pa_cons (pe_callB (q_len K) rfl T.f_len bb_len (pa_cons (pv 5) pa_nil)) pa_nil)))) (fun _ _ => rfl)))) pa_nil)) pa_nil))) ?_
          walk_at "w"
          refine w_tyL (sqL (eEG _ _ hEq)) ?_
          walk_at "w"
          rw [Int.toNat_natCast]
          refine rlcV walk_range (fun u acc => ∃ dr : List Str, acc = dr.map V.str ∧ dr.length = u ∧ ∀ x ∈ dr, x ∈ ts) (by omega) (fun _ _ => trivial) ⟨[], rfl, rfl, by simp⟩ ?_ ?_
          · rintro u acc x _ HI hu' _ sI ⟨dr, rfl, hdu, hdx⟩ ⟨rfl, rfl⟩ KT KF hKT _
            rw [show ((fun i : Nat => V.int (0 + (i : Int))) u) = V.int (u : Int) from congrArg V.int (Int.zero_add _)]
            walk_at "w"
            refine ⟨rfl, ?_⟩
            have hIt := sI _ _ (eEG _ _ hEt)
            walk_at "w"
            rw [List.length_map]
            refine draw_use (hS.same (sHG.trans sI)) ⟨by omega, by omega⟩ ⟨by omega, by omega⟩ fun rx HJ hrx sJ => ?_
            have hrx' : rx < ts.length := by omega
            refine w_ixL (v := .str (ts[rx]'hrx')) (sqL (sJ _ _ hIt)) (atI_nat (by rw [List.getElem?_map, List.getElem?_eq_getElem hrx']; rfl)) ?_
            refine hKT _ _ sJ ⟨dr ++ [ts[rx]'hrx'], by simp, by simp [hdu], fun x hx => ?_⟩
            rcases List.mem_append.mp hx with z | z
            · exact hdx x z
            · rw [List.mem_singleton.mp z]; exact List.getElem_mem _
          · rintro D acc HI hD sI hI' _ ⟨dr, rfl, hdu, hdx⟩
            walk_at "w"
            refine w_tupleL (sqL hI') fun tz HJ htz sJ hJ => ?_
            walk_at "w"
            have eEJ := eEG.trans (sI.trans sJ)
            have hJq := eEJ _ _ hEq
            have hpq := paired_len hPE
            refine w_app hJq (by rw [List.length_map]; omega) ?_
            have hap : ∀ {b : Addr} {o : HO}, b ≠ lq → HJ b = some o → (upd HJ lq (.lst (qs.map V.ref ++ [.ref tz]))) b = some o := fun hb e => by rw [upd_ne hb]; exact e
            refine ssx_nil ⟨⟨_, _, rfl⟩, Same.mut (sE.trans eEJ) hlq0, hap hqt.symm (eEJ _ _ hEt), hap hqd.symm (eEJ _ _ hEd), hap hqr.symm (eEJ _ _ hEr), tpE.trans ((TP.same eEJ).trans (TP.lst hJq)), qs ++ [tz], drs ++ [dr], by rw [upd_same]; simp, paired_snoc (paired_imp hPE fun _ _ z => sqT_updL (Same.sqt eEJ z) hJq) (sqT_updL (sqT hJ) hJq), by simp [hdl], fun dx hdx' => ?_⟩
            rcases List.mem_append.mp hdx' with z | z
            · exact hdo dx z
            · rw [List.mem_singleton.mp z]
              refine ⟨by omega, fun x hx => ?_⟩
              have := hdx x hx
              rw [hts] at this
              rcases List.mem_append.mp this with z | z
              · exact .inl z
              · exact .inr (op_mem.mp z)
        · rintro σ HE ⟨⟨o12, o13, rfl⟩, sE, hEt, hEd, hEr, tpE, qs, drs, hEq, hPE, hdl, hdo⟩
          refine ssx_cons (ps_expr (q_bm K PySem.F.plainAttrs_list PySem.F.slot_list_append PySem.F.type_list_append mt_append (pv 8) (pa_cons (pe_callTy (q_tuple K) rfl T.f_tuple bt_tuple (pa_cons (pv 10) pa_nil)) pa_nil))) ?_
          walk_at "w"
          refine w_tupleL (sqL hEq) fun tz HJ htz sJ hJ => ?_
          walk_at "w"
          have hJr := sJ _ _ hEr
          have hpa := paired_len hPC
          refine w_app hJr (by rw [List.length_map]; omega) ?_
          have hap : ∀ {b : Addr} {o : HO}, b ≠ lr → HJ b = some o → (upd HJ lr (.lst (as.map V.ref ++ [.ref tz]))) b = some o := fun hb e => by rw [upd_ne hb]; exact e
          have tpF : TP K HE (upd HJ lr (.lst (as.map V.ref ++ [.ref tz]))) := (TP.same sJ).trans (TP.lst hJr)
          refine ssx_nil ⟨⟨_, _, _, _, _, _, rfl⟩, Same.mut (sE.trans sJ) hlr0, hap hrt.symm (sJ _ _ hEt), hap hrd.symm (sJ _ _ hEd), tpC.trans (tpE.trans tpF), as ++ [tz], rws ++ [drs], by rw [upd_same]; simp, paired_snoc (paired_imp hPC fun _ _ z => (z.tp tpE).tp tpF) ⟨qs, sqT_updL (sqT hJ) hJr, paired_imp hPE fun _ _ z => tpF _ _ z⟩, by simp [hrl], fun rw' hrw => ?_, fun r0 h0 => ?_, fun r1 h1 => ?_⟩
          · rcases List.mem_append.mp hrw with z | z
            · exact hdr rw' z
            · rw [List.mem_singleton.mp z]; exact hdo
          · cases rws with
            | nil =>
              simp at h0 hrl
              subst h0
              have := hccb.1 hrl.symm
              omega
            | cons z zs => exact hr0 r0 (by simpa using h0)
          · cases rws with
            | nil => simp at h1
            | cons z zs =>
              cases zs with
              | nil =>
                simp at h1 hrl
                subst h1
                have := hccb.2 hrl.symm
                omega
              | cons z2 zs => simp at hrl; omega
      · walk_at "w"
        refine draw_use (hS.same s0C) ⟨hfb.1, by omega⟩ ⟨by decide, by decide⟩ fun c0 HD hc0 sD => ?_
        walk_at "w"
        have hj0' : ¬ j = 0 := by simp at hj0; omega
        obtain ⟨cc, hcc⟩ : ∃ cc : Nat, cc = 1 + c0 := ⟨_, rfl⟩
        have hccb : (j = 0 → cc ≤ 2) ∧ (j = 1 → 1 ≤ cc ∧ cc ≤ 3) := by constructor <;> intro _ <;> omega
        rw [show (1 : Int) + (c0 : Int) = ((cc : Nat) : Int) by omega]
        rw [Int.toNat_natCast]
        refine for_range (n := cc) (fun t σ HE => (∃ o12 o13, σ = [some (.ref a), some (.int p), some (.bl lossy), some (.str (nmT n)), some (.ref d), some (.ref lt), some (.int (i : Nat)), some (.str ⟨#[c]⟩), some (.ref lr), some (.int (j : Nat)), some (.ref lq), some (.int fi), o12, o13, o14, none]) ∧ Same H HE ∧ HE lt = some (.lst (ts.map V.str)) ∧ HE d = some (.dK (mapK ((kl.take n).take i) fun k => .ref (ka k))) ∧ HE lr = some (.lst (as.map V.ref)) ∧ TP K HC HE ∧
            ∃ (qs : List Addr) (drs : List (List Str)), HE lq = some (.lst (qs.map V.ref)) ∧ Paired (fun q dr => SqT K HE q (dr.map V.str)) qs drs ∧ drs.length = t ∧ ∀ dr ∈ drs, DrOk (kl.take n) dr) ?_ ?_ ?_
        · exact ⟨⟨_, _, rfl⟩, s0C.trans sD, sD _ _ hCt, sD _ _ hCd, sD _ _ hCr, TP.same sD, [], [], sD _ _ hCq, .nil, rfl, by simp⟩
        · rintro t σ HE ht ⟨⟨o12, o13, rfl⟩, sE, hEt, hEd, hEr, tpE, qs, drs, hEq, hPE, hdl, hdo⟩
          rw [Int.zero_add]
          walk_at "w"
          refine ssx_cons (ps_set (i := 13) sc_law_knots.nd rfl (Or.inl rfl) (pe_ix (q_ixT K) (pe_tup (pa_cons pe_int (pa_cons pe_int (pa_cons pe_int (pa_cons pe_int (pa_cons pe_int pa_nil)))))) (pe_callF O_law_draw (hr.mono (by decide)) rfl T.g__law_draw pass0 (pa_cons (pv 0) (pa_cons (pe_op op_add (pe_op op_add (pv 11) pe_int) (pe_op op_mul pe_int (pv 12))) (pa_cons pe_int pa_nil)))) (fun _ _ => rfl))) ?_
          walk_at "w"
          refine w_newT (by simp) fun t5 HF ht5 sF hF5 => ?_
          walk_at "w"
          refine draw_use (hS.same (sE.trans sF)) ⟨by omega, by omega⟩ ⟨by decide, by decide⟩ fun r5 HG hr5 sG => ?_
          obtain ⟨mm, hmm, hm2⟩ : ∃ mm : Nat, ([V.int 1, V.int 1, V.int 1, V.int 0, V.int 2] : List V)[r5]? = some (V.int mm) ∧ mm ≤ 2 := by
            have : r5 = 0 ∨ r5 = 1 ∨ r5 = 2 ∨ r5 = 3 ∨ r5 = 4 := by omega
            rcases this with rfl | rfl | rfl | rfl | rfl
            · exact ⟨1, rfl, by decide⟩
            · exact ⟨1, rfl, by decide⟩
            · exact ⟨1, rfl, by decide⟩
            · exact ⟨0, rfl, by decide⟩
            · exact ⟨2, rfl, by decide⟩
          refine w_ixT (v := .int mm) (sqT (sG _ _ hF5)) (atI_nat hmm) ?_
          walk_at "w"
          have eEG := sF.trans sG
          have sHG := sE.trans eEG
          refine ssx_cons (ps_expr (q_bm K PySem.F.plainAttrs_list PySem.F.slot_list_append PySem.F.type_list_append mt_append (pv 10) (pa_cons (pe_callTy (q_tuple K) rfl T.f_tuple bt_tuple (pa_cons (pe_lc (own := [("_law_one", 15)]) rfl sc_law_knots.nd (pi_range1 rfl T.f_range (pa_cons (pv 13) pa_nil)) (blkOk_by (N := N_law_knots) (sc := defScope s_law_knots) (by decide +kernel)) (fun _ _ _ _ _ => (pg_name (i := 15) sc_law_knots.nd rfl (Or.inl rfl))) (fun _ _ _ _ _ => pts_nil) (fun _ _ _ _ _ => (pe_ix (q_ixL K) (pv 5) (pe_callF O_law_draw (hr.mono (by decide)) rfl T.g__law_draw pass0 (pa_cons (pv 0) (pa_cons (pe_op op_add (pe_op op_add (pe_op op_add (pv 11) pe_int) (pe_op op_mul pe_int (pv 12))) (pv 15)) (pa_cons (pe_callB (q_len K) rfl T.f_len bb_len (pa_cons (pv 5) pa_nil)) pa_nil)))) (fun _ _ => rfl)))) pa_nil)) pa_nil))) ?_
          walk_at "w"
          refine w_tyL (sqL (eEG _ _ hEq)) ?_
          walk_at "w"
          rw [Int.toNat_natCast]
          refine rlcV walk_range (fun u acc => ∃ dr : List Str, acc = dr.map V.str ∧ dr.length = u ∧ ∀ x ∈ dr, x ∈ ts) (by omega) (fun _ _ => trivial) ⟨[], rfl, rfl, by simp⟩ ?_ ?_
          · rintro u acc x _ HI hu' _ sI ⟨dr, rfl, hdu, hdx⟩ ⟨rfl, rfl⟩ KT KF hKT _
            rw [show ((fun i : Nat => V.int (0 + (i : Int))) u) = V.int (u : Int) from congrArg V.int (Int.zero_add _)]
            walk_at "w"
            refine ⟨rfl, ?_⟩
            have hIt := sI _ _ (eEG _ _ hEt)
            walk_at "w"
            rw [List.length_map]
            refine draw_use (hS.same (sHG.trans sI)) ⟨by omega, by omega⟩ ⟨by omega, by omega⟩ fun rx HJ hrx sJ => ?_
            have hrx' : rx < ts.length := by omega
            refine w_ixL (v := .str (ts[rx]'hrx')) (sqL (sJ _ _ hIt)) (atI_nat (by rw [List.getElem?_map, List.getElem?_eq_getElem hrx']; rfl)) ?_
            refine hKT _ _ sJ ⟨dr ++ [ts[rx]'hrx'], by simp, by simp [hdu], fun x hx => ?_⟩
            rcases List.mem_append.mp hx with z | z
            · exact hdx x z
            · rw [List.mem_singleton.mp z]; exact List.getElem_mem _
          · rintro D acc HI hD sI hI' _ ⟨dr, rfl, hdu, hdx⟩
            walk_at "w"
            refine w_tupleL (sqL hI') fun tz HJ htz sJ hJ => ?_
            walk_at "w"
            have eEJ := eEG.trans (sI.trans sJ)
            have hJq := eEJ _ _ hEq
            have hpq := paired_len hPE
            refine w_app hJq (by rw [List.length_map]; omega) ?_
            have hap : ∀ {b : Addr} {o : HO}, b ≠ lq → HJ b = some o → (upd HJ lq (.lst (qs.map V.ref ++ [.ref tz]))) b = some o := fun hb e => by rw [upd_ne hb]; exact e
            refine ssx_nil ⟨⟨_, _, rfl⟩, Same.mut (sE.trans eEJ) hlq0, hap hqt.symm (eEJ _ _ hEt), hap hqd.symm (eEJ _ _ hEd), hap hqr.symm (eEJ _ _ hEr), tpE.trans ((TP.same eEJ).trans (TP.lst hJq)), qs ++ [tz], drs ++ [dr], by rw [upd_same]; simp, paired_snoc (paired_imp hPE fun _ _ z => sqT_updL (Same.sqt eEJ z) hJq) (sqT_updL (sqT hJ) hJq), by simp [hdl], fun dx hdx' => ?_⟩
            rcases List.mem_append.mp hdx' with z | z
            · exact hdo dx z
            · rw [List.mem_singleton.mp z]
              refine ⟨by omega, fun x hx => ?_⟩
              have := hdx x hx
              rw [hts] at this
              rcases List.mem_append.mp this with z | z
              · exact .inl z
              · exact .inr (op_mem.mp z)
        · rintro σ HE ⟨⟨o12, o13, rfl⟩, sE, hEt, hEd, hEr, tpE, qs, drs, hEq, hPE, hdl, hdo⟩
          refine ssx_cons (ps_expr (q_bm K PySem.F.plainAttrs_list PySem.F.slot_list_append PySem.F.type_list_append mt_append (pv 8) (pa_cons (pe_callTy (q_tuple K) rfl T.f_tuple bt_tuple (pa_cons (pv 10) pa_nil)) pa_nil))) ?_
          walk_at "w"
          refine w_tupleL (sqL hEq) fun tz HJ htz sJ hJ => ?_
          walk_at "w"
          have hJr := sJ _ _ hEr
          have hpa := paired_len hPC
          refine w_app hJr (by rw [List.length_map]; omega) ?_
          have hap : ∀ {b : Addr} {o : HO}, b ≠ lr → HJ b = some o → (upd HJ lr (.lst (as.map V.ref ++ [.ref tz]))) b = some o := fun hb e => by rw [upd_ne hb]; exact e
          have tpF : TP K HE (upd HJ lr (.lst (as.map V.ref ++ [.ref tz]))) := (TP.same sJ).trans (TP.lst hJr)
          refine ssx_nil ⟨⟨_, _, _, _, _, _, rfl⟩, Same.mut (sE.trans sJ) hlr0, hap hrt.symm (sJ _ _ hEt), hap hrd.symm (sJ _ _ hEd), tpC.trans (tpE.trans tpF), as ++ [tz], rws ++ [drs], by rw [upd_same]; simp, paired_snoc (paired_imp hPC fun _ _ z => (z.tp tpE).tp tpF) ⟨qs, sqT_updL (sqT hJ) hJr, paired_imp hPE fun _ _ z => tpF _ _ z⟩, by simp [hrl], fun rw' hrw => ?_, fun r0 h0 => ?_, fun r1 h1 => ?_⟩
          · rcases List.mem_append.mp hrw with z | z
            · exact hdr rw' z
            · rw [List.mem_singleton.mp z]; exact hdo
          · cases rws with
            | nil =>
              simp at h0 hrl
              subst h0
              have := hccb.1 hrl.symm
              omega
            | cons z zs => exact hr0 r0 (by simpa using h0)
          · cases rws with
            | nil => simp at h1
            | cons z zs =>
              cases zs with
              | nil =>
                simp at h1 hrl
                subst h1
                have := hccb.2 hrl.symm
                omega
              | cons z2 zs => simp at hrl; omega
    · rintro σ HA ⟨⟨o9, o10, o11, o12, o13, o14, rfl⟩, sA, hAt, hAd, tpA, as, rws, hAr, hPA, hrl, hdr, hr0, hr1⟩
      obtain ⟨r0, r1, rfl⟩ : ∃ r0 r1, rws = [r0, r1] := by
        match rws, hrl with
        | [r0, r1], _ => exact ⟨r0, r1, rfl⟩
      obtain ⟨a0, a1, rfl, hR0, hR1⟩ : ∃ a0 a1, as = [a0, a1] ∧ RowAt K HA a0 r0 ∧ RowAt K HA a1 r1 := by
        cases hPA with
        | cons h0 t =>
          cases t with
          | cons h1 t => cases t; exact ⟨_, _, rfl, h0, h1⟩
      have hb0 := hr0 r0 rfl
      have hb1 := hr1 r1 rfl
      have hzl : (nmT n).length = n := hsz
      refine ssx_cons (ps_set (i := 14) sc_law_knots.nd rfl (Or.inl rfl) (pe_ifExp (pt_cmpR op_lt (pe_op op_add (pv 6) pe_int) (pe_callB k_lenS rfl T.f_len bb_len (pa_cons (pv 3) pa_nil)) (nomark _)) (pe_tup (pa_cons (pe_tup (pa_cons (pe_ix ix_str (pv 3) (pe_op op_add (pv 6) pe_int) (fun _ _ => rfl)) pa_nil)) pa_nil)) (pe_tup pa_nil))) ?_
      walk_at "w"
      refine w_lenS (by omega) ?_
      rw [hzl]
      walk_at "w"
      refine w_dcases (fun hlast => ?_) fun hlast => ?_
      · have hi1 : i + 1 < n := by omega
        obtain ⟨c1, hc1', hn1'⟩ : ∃ c1, (nmT n).cps.toList[i + 1]? = some c1 ∧ (kl.take n)[i + 1]? = some ⟨#[c1]⟩ := by
          have : (nmT n).cps.toList[i + 1]? = some ((nmT n).cps.toList[i + 1]'(by rw [Array.length_toList, hsz]; exact hi1)) := List.getElem?_eq_getElem _
          exact ⟨_, this, by rw [← nm_signs, List.getElem?_map, this]; rfl⟩
        walk_at "w"
        refine w_ixS (c := c1) (by omega) (by rw [show ((i : Nat) : Int) + 1 = ((i + 1 : Nat) : Int) by omega]; exact atI_nat hc1') ?_
        walk_at "w"
        refine w_newT (by simp) fun t1 HX0 ht1 sX0 hX1 => ?_
        walk_at "w"
        refine w_newT (by simp) fun la HX hla sX1 hX2 => ?_
        have sX := sX0.trans sX1
        obtain ⟨lrows, hlrows⟩ : ∃ lrows : List (List Str), lrows = [[⟨#[c1]⟩]] := ⟨_, rfl⟩
        have hLa : RowAt K HX la lrows := by rw [hlrows]; exact ⟨[t1], sqT hX2, .cons (sqT (sX1 _ _ hX1)) .nil⟩
        have hll : lrows.length ≤ 1 := by rw [hlrows]; simp
        have hlo1 : ∀ dr ∈ lrows, DrOk (kl.take n) dr := fun dr h => by
          rw [hlrows] at h
          rw [List.mem_singleton.mp h]
          exact ⟨by simp, fun t ht => .inl (by rw [List.mem_singleton.mp ht]; exact List.mem_of_getElem? hn1')⟩
        have hlch : ∀ l, (kl.take n)[i + 1]? = some l → [l] ∈ lrows := fun l h => by
          rw [hn1'] at h; cases h; rw [hlrows]; simp
        clear hlrows
        walk_at "w"
        refine ssx_cons (ps_dput hu (pv 4) (pv 7) (pe_tup (pa_cons (pe_ix (q_ixL K) (pv 8) pe_int (fun _ _ => rfl)) (pa_cons (pe_op (q_catA K) (pe_op (q_catA K) (pe_ix (q_ixL K) (pv 8) pe_int (fun _ _ => rfl)) (pv 14)) (pe_ifExp (pt_val (pv 2)) (pe_tup (pa_cons (pe_tup (pa_cons pe_str pa_nil)) pa_nil)) (pe_tup pa_nil))) pa_nil))) rfl) ?_
        walk_at "w"
        have tpX : TP K H9 HX := tpA.trans (TP.same sX)
        have hXr := sX _ _ hAr
        have hXd := sX _ _ hAd
        refine w_ixL (v := .ref a0) (sqL hXr) (atI_nat (j := 0) rfl) ?_
        walk_at "w"
        refine w_ixL (v := .ref a1) (sqL hXr) (atI_nat (j := 1) rfl) ?_
        walk_at "w"
        refine catA_row (RowAt.same sX hR1) hLa (fun z => by rw [z] at hb1; simp at hb1) (by omega) fun ca HY sY hCa => ?_
        walk_at "w"
        refine w_both (fun hlo => ?_) fun hlo => ?_
        · walk_at "w"
          refine w_newT (by simp) fun o1 HZ ho1 sZ hZ1 => ?_
          walk_at "w"
          refine w_newT (by simp) fun o2 HU ho2 sU hU => ?_
          have hOo : RowAt K HU o2 ([["o"]] : List (List Str)) := ⟨[o1], sqT hU, .cons (sqT (sU _ _ hZ1)) .nil⟩
          refine catA_row (RowAt.same (sZ.trans sU) hCa) hOo (fun z => by rw [List.append_eq_nil_iff] at z; rw [z.1] at hb1; simp at hb1) (by rw [List.length_append]; simp; omega) fun cb HV sV hCb => ?_
          walk_at "w"
          refine w_newT (by simp) fun tz HW htz sW hW => ?_
          walk_at "w"
          have eXW := sY.trans ((sZ.trans sU).trans (sV.trans sW))
          have hWd := eXW _ _ hXd
          refine w_putK hWd (by rw [List.length_take]; omega) ?_
          have hnt : (⟨#[c]⟩ : Str) ∉ (kl.take n).take i := not_take (List.Sublist.nodup (List.take_sublist _ _) kl_nodup) hnm
          have tpW : TP K H9 (upd HW d (.dK (mapK (ins ((kl.take n).take i) ⟨#[c]⟩) (up (fun k => V.ref (ka k)) ⟨#[c]⟩ (.ref tz))))) := tpX.trans ((TP.same eXW).trans (TP.dct hWd))
          refine ssx_nil ⟨⟨_, _, _, _, _, _, _, _, _, rfl⟩, Same.mut (sA.trans (sX.trans eXW)) hd0, by rw [upd_ne hltd]; exact eXW _ _ (sX _ _ hAt), up fr ⟨#[c]⟩ r0, up tn ⟨#[c]⟩ ((r1 ++ lrows) ++ ([["o"]] : List (List Str))), up ka ⟨#[c]⟩ tz, ?_, fun jj kk hjk hji => ?_⟩
          · rw [upd_same, show ins ((kl.take n).take i) ⟨#[c]⟩ = (kl.take n).take i ++ [⟨#[c]⟩] from if_neg hnt, ← take_snoc hnm]
            refine congrArg (fun z => some (HO.dK z)) (mapK_congr fun x _ => ?_)
            by_cases e : x = (⟨#[c]⟩ : Str)
            · subst e; rw [show up _ _ _ (⟨#[c]⟩ : Str) = _ from NetD.up_same, show up ka _ tz (⟨#[c]⟩ : Str) = tz from NetD.up_same]
            · rw [show up _ (⟨#[c]⟩ : Str) _ x = _ from NetD.up_ne e, show up ka (⟨#[c]⟩ : Str) tz x = ka x from NetD.up_ne e]
          · by_cases e : jj = i
            · subst e
              rw [hnm] at hjk
              cases hjk
              rw [show up ka _ tz (⟨#[c]⟩ : Str) = tz from NetD.up_same, show up fr _ r0 (⟨#[c]⟩ : Str) = r0 from NetD.up_same, show up tn _ _ (⟨#[c]⟩ : Str) = _ from NetD.up_same]
              refine ⟨⟨a0, cb, sqT_upd (sqT hW) hWd, ?_, ?_⟩, hb0, ⟨by simp; omega, by simp; omega⟩, fun dr hdr' => ?_, fun l hl => ?_⟩
              · exact (RowAt.same (sX.trans eXW) hR0).tp (TP.dct hWd)
              · exact (RowAt.same sW hCb).tp (TP.dct hWd)
              · rcases List.mem_append.mp hdr' with z | z
                · exact hdr r0 (by simp) dr z
                · rcases List.mem_append.mp z with z | z
                  · rcases List.mem_append.mp z with z | z
                    · exact hdr r1 (by simp) dr z
                    · exact hlo1 dr z
                  · first
                      | exact absurd z (List.not_mem_nil)
                      | (rw [List.mem_singleton.mp z]; exact ⟨by simp, fun t ht => .inr (.inl (List.mem_singleton.mp ht))⟩)
              · exact List.mem_append.mpr (.inl (List.mem_append.mpr (.inr (hlch l hl))))
            · have hji' : jj < i := by omega
              have hkn' : kk ≠ (⟨#[c]⟩ : Str) := fun z => hnt (by
                subst z
                exact List.mem_of_getElem? (by rw [List.getElem?_take, if_pos hji']; exact hjk))
              rw [show up ka _ tz kk = ka kk from NetD.up_ne hkn', show up fr _ r0 kk = fr kk from NetD.up_ne hkn', show up tn _ _ kk = tn kk from NetD.up_ne hkn']
              have := hIk jj kk hjk hji'
              exact ⟨(this.1.same s9).tp tpW, this.2⟩
        · walk_at "w"
          refine w_newT (by simp) fun o2 HU ho2 sU hU => ?_
          have hOo : RowAt K HU o2 [] := ⟨[], sqT hU, .nil⟩
          refine catA_row (RowAt.same sU hCa) hOo (fun z => by rw [List.append_eq_nil_iff] at z; rw [z.1] at hb1; simp at hb1) (by rw [List.length_append]; simp; omega) fun cb HV sV hCb => ?_
          walk_at "w"
          refine w_newT (by simp) fun tz HW htz sW hW => ?_
          walk_at "w"
          have eXW := sY.trans ((sU).trans (sV.trans sW))
          have hWd := eXW _ _ hXd
          refine w_putK hWd (by rw [List.length_take]; omega) ?_
          have hnt : (⟨#[c]⟩ : Str) ∉ (kl.take n).take i := not_take (List.Sublist.nodup (List.take_sublist _ _) kl_nodup) hnm
          have tpW : TP K H9 (upd HW d (.dK (mapK (ins ((kl.take n).take i) ⟨#[c]⟩) (up (fun k => V.ref (ka k)) ⟨#[c]⟩ (.ref tz))))) := tpX.trans ((TP.same eXW).trans (TP.dct hWd))
          refine ssx_nil ⟨⟨_, _, _, _, _, _, _, _, _, rfl⟩, Same.mut (sA.trans (sX.trans eXW)) hd0, by rw [upd_ne hltd]; exact eXW _ _ (sX _ _ hAt), up fr ⟨#[c]⟩ r0, up tn ⟨#[c]⟩ ((r1 ++ lrows) ++ ([] : List (List Str))), up ka ⟨#[c]⟩ tz, ?_, fun jj kk hjk hji => ?_⟩
          · rw [upd_same, show ins ((kl.take n).take i) ⟨#[c]⟩ = (kl.take n).take i ++ [⟨#[c]⟩] from if_neg hnt, ← take_snoc hnm]
            refine congrArg (fun z => some (HO.dK z)) (mapK_congr fun x _ => ?_)
            by_cases e : x = (⟨#[c]⟩ : Str)
            · subst e; rw [show up _ _ _ (⟨#[c]⟩ : Str) = _ from NetD.up_same, show up ka _ tz (⟨#[c]⟩ : Str) = tz from NetD.up_same]
            · rw [show up _ (⟨#[c]⟩ : Str) _ x = _ from NetD.up_ne e, show up ka (⟨#[c]⟩ : Str) tz x = ka x from NetD.up_ne e]
          · by_cases e : jj = i
            · subst e
              rw [hnm] at hjk
              cases hjk
              rw [show up ka _ tz (⟨#[c]⟩ : Str) = tz from NetD.up_same, show up fr _ r0 (⟨#[c]⟩ : Str) = r0 from NetD.up_same, show up tn _ _ (⟨#[c]⟩ : Str) = _ from NetD.up_same]
              refine ⟨⟨a0, cb, sqT_upd (sqT hW) hWd, ?_, ?_⟩, hb0, ⟨by simp; omega, by simp; omega⟩, fun dr hdr' => ?_, fun l hl => ?_⟩
              · exact (RowAt.same (sX.trans eXW) hR0).tp (TP.dct hWd)
              · exact (RowAt.same sW hCb).tp (TP.dct hWd)
              · rcases List.mem_append.mp hdr' with z | z
                · exact hdr r0 (by simp) dr z
                · rcases List.mem_append.mp z with z | z
                  · rcases List.mem_append.mp z with z | z
                    · exact hdr r1 (by simp) dr z
                    · exact hlo1 dr z
                  · first
                      | exact absurd z (List.not_mem_nil)
                      | (rw [List.mem_singleton.mp z]; exact ⟨by simp, fun t ht => .inr (.inl (List.mem_singleton.mp ht))⟩)
              · exact List.mem_append.mpr (.inl (List.mem_append.mpr (.inr (hlch l hl))))
            · have hji' : jj < i := by omega
              have hkn' : kk ≠ (⟨#[c]⟩ : Str) := fun z => hnt (by
                subst z
                exact List.mem_of_getElem? (by rw [List.getElem?_take, if_pos hji']; exact hjk))
              rw [show up ka _ tz kk = ka kk from NetD.up_ne hkn', show up fr _ r0 kk = fr kk from NetD.up_ne hkn', show up tn _ _ kk = tn kk from NetD.up_ne hkn']
              have := hIk jj kk hjk hji'
              exact ⟨(this.1.same s9).tp tpW, this.2⟩
      · walk_at "w"
        refine w_newT (by simp) fun la HX hla sX hX2 => ?_
        obtain ⟨lrows, hlrows⟩ : ∃ lrows : List (List Str), lrows = [] := ⟨_, rfl⟩
        have hLa : RowAt K HX la lrows := by rw [hlrows]; exact ⟨[], sqT hX2, .nil⟩
        have hll : lrows.length ≤ 1 := by rw [hlrows]; simp
        have hlo1 : ∀ dr ∈ lrows, DrOk (kl.take n) dr := fun dr h => by rw [hlrows] at h; exact absurd h (List.not_mem_nil)
        have hlch : ∀ l, (kl.take n)[i + 1]? = some l → [l] ∈ lrows := fun l h => by
          obtain ⟨z, _⟩ := List.getElem?_eq_some_iff.mp h
          omega
        clear hlrows
        walk_at "w"
        refine ssx_cons (ps_dput hu (pv 4) (pv 7) (pe_tup (pa_cons (pe_ix (q_ixL K) (pv 8) pe_int (fun _ _ => rfl)) (pa_cons (pe_op (q_catA K) (pe_op (q_catA K) (pe_ix (q_ixL K) (pv 8) pe_int (fun _ _ => rfl)) (pv 14)) (pe_ifExp (pt_val (pv 2)) (pe_tup (pa_cons (pe_tup (pa_cons pe_str pa_nil)) pa_nil)) (pe_tup pa_nil))) pa_nil))) rfl) ?_
        walk_at "w"
        have tpX : TP K H9 HX := tpA.trans (TP.same sX)
        have hXr := sX _ _ hAr
        have hXd := sX _ _ hAd
        refine w_ixL (v := .ref a0) (sqL hXr) (atI_nat (j := 0) rfl) ?_
        walk_at "w"
        refine w_ixL (v := .ref a1) (sqL hXr) (atI_nat (j := 1) rfl) ?_
        walk_at "w"
        refine catA_row (RowAt.same sX hR1) hLa (fun z => by rw [z] at hb1; simp at hb1) (by omega) fun ca HY sY hCa => ?_
        walk_at "w"
        refine w_both (fun hlo => ?_) fun hlo => ?_
        · walk_at "w"
          refine w_newT (by simp) fun o1 HZ ho1 sZ hZ1 => ?_
          walk_at "w"
          refine w_newT (by simp) fun o2 HU ho2 sU hU => ?_
          have hOo : RowAt K HU o2 ([["o"]] : List (List Str)) := ⟨[o1], sqT hU, .cons (sqT (sU _ _ hZ1)) .nil⟩
          refine catA_row (RowAt.same (sZ.trans sU) hCa) hOo (fun z => by rw [List.append_eq_nil_iff] at z; rw [z.1] at hb1; simp at hb1) (by rw [List.length_append]; simp; omega) fun cb HV sV hCb => ?_
          walk_at "w"
          refine w_newT (by simp) fun tz HW htz sW hW => ?_
          walk_at "w"
          have eXW := sY.trans ((sZ.trans sU).trans (sV.trans sW))
          have hWd := eXW _ _ hXd
          refine w_putK hWd (by rw [List.length_take]; omega) ?_
          have hnt : (⟨#[c]⟩ : Str) ∉ (kl.take n).take i := not_take (List.Sublist.nodup (List.take_sublist _ _) kl_nodup) hnm
          have tpW : TP K H9 (upd HW d (.dK (mapK (ins ((kl.take n).take i) ⟨#[c]⟩) (up (fun k => V.ref (ka k)) ⟨#[c]⟩ (.ref tz))))) := tpX.trans ((TP.same eXW).trans (TP.dct hWd))
          refine ssx_nil ⟨⟨_, _, _, _, _, _, _, _, _, rfl⟩, Same.mut (sA.trans (sX.trans eXW)) hd0, by rw [upd_ne hltd]; exact eXW _ _ (sX _ _ hAt), up fr ⟨#[c]⟩ r0, up tn ⟨#[c]⟩ ((r1 ++ lrows) ++ ([["o"]] : List (List Str))), up ka ⟨#[c]⟩ tz, ?_, fun jj kk hjk hji => ?_⟩
          · rw [upd_same, show ins ((kl.take n).take i) ⟨#[c]⟩ = (kl.take n).take i ++ [⟨#[c]⟩] from if_neg hnt, ← take_snoc hnm]
            refine congrArg (fun z => some (HO.dK z)) (mapK_congr fun x _ => ?_)
            by_cases e : x = (⟨#[c]⟩ : Str)
            · subst e; rw [show up _ _ _ (⟨#[c]⟩ : Str) = _ from NetD.up_same, show up ka _ tz (⟨#[c]⟩ : Str) = tz from NetD.up_same]
            · rw [show up _ (⟨#[c]⟩ : Str) _ x = _ from NetD.up_ne e, show up ka (⟨#[c]⟩ : Str) tz x = ka x from NetD.up_ne e]
          · by_cases e : jj = i
            · subst e
              rw [hnm] at hjk
              cases hjk
              rw [show up ka _ tz (⟨#[c]⟩ : Str) = tz from NetD.up_same, show up fr _ r0 (⟨#[c]⟩ : Str) = r0 from NetD.up_same, show up tn _ _ (⟨#[c]⟩ : Str) = _ from NetD.up_same]
              refine ⟨⟨a0, cb, sqT_upd (sqT hW) hWd, ?_, ?_⟩, hb0, ⟨by simp; omega, by simp; omega⟩, fun dr hdr' => ?_, fun l hl => ?_⟩
              · exact (RowAt.same (sX.trans eXW) hR0).tp (TP.dct hWd)
              · exact (RowAt.same sW hCb).tp (TP.dct hWd)
              · rcases List.mem_append.mp hdr' with z | z
                · exact hdr r0 (by simp) dr z
                · rcases List.mem_append.mp z with z | z
                  · rcases List.mem_append.mp z with z | z
                    · exact hdr r1 (by simp) dr z
                    · exact hlo1 dr z
                  · first
                      | exact absurd z (List.not_mem_nil)
                      | (rw [List.mem_singleton.mp z]; exact ⟨by simp, fun t ht => .inr (.inl (List.mem_singleton.mp ht))⟩)
              · exact List.mem_append.mpr (.inl (List.mem_append.mpr (.inr (hlch l hl))))
            · have hji' : jj < i := by omega
              have hkn' : kk ≠ (⟨#[c]⟩ : Str) := fun z => hnt (by
                subst z
                exact List.mem_of_getElem? (by rw [List.getElem?_take, if_pos hji']; exact hjk))
              rw [show up ka _ tz kk = ka kk from NetD.up_ne hkn', show up fr _ r0 kk = fr kk from NetD.up_ne hkn', show up tn _ _ kk = tn kk from NetD.up_ne hkn']
              have := hIk jj kk hjk hji'
              exact ⟨(this.1.same s9).tp tpW, this.2⟩
        · walk_at "w"
          refine w_newT (by simp) fun o2 HU ho2 sU hU => ?_
          have hOo : RowAt K HU o2 [] := ⟨[], sqT hU, .nil⟩
          refine catA_row (RowAt.same sU hCa) hOo (fun z => by rw [List.append_eq_nil_iff] at z; rw [z.1] at hb1; simp at hb1) (by rw [List.length_append]; simp; omega) fun cb HV sV hCb => ?_
          walk_at "w"
          refine w_newT (by simp) fun tz HW htz sW hW => ?_
          walk_at "w"
          have eXW := sY.trans ((sU).trans (sV.trans sW))
          have hWd := eXW _ _ hXd
          refine w_putK hWd (by rw [List.length_take]; omega) ?_
          have hnt : (⟨#[c]⟩ : Str) ∉ (kl.take n).take i := not_take (List.Sublist.nodup (List.take_sublist _ _) kl_nodup) hnm
          have tpW : TP K H9 (upd HW d (.dK (mapK (ins ((kl.take n).take i) ⟨#[c]⟩) (up (fun k => V.ref (ka k)) ⟨#[c]⟩ (.ref tz))))) := tpX.trans ((TP.same eXW).trans (TP.dct hWd))
          refine ssx_nil ⟨⟨_, _, _, _, _, _, _, _, _, rfl⟩, Same.mut (sA.trans (sX.trans eXW)) hd0, by rw [upd_ne hltd]; exact eXW _ _ (sX _ _ hAt), up fr ⟨#[c]⟩ r0, up tn ⟨#[c]⟩ ((r1 ++ lrows) ++ ([] : List (List Str))), up ka ⟨#[c]⟩ tz, ?_, fun jj kk hjk hji => ?_⟩
          · rw [upd_same, show ins ((kl.take n).take i) ⟨#[c]⟩ = (kl.take n).take i ++ [⟨#[c]⟩] from if_neg hnt, ← take_snoc hnm]
            refine congrArg (fun z => some (HO.dK z)) (mapK_congr fun x _ => ?_)
            by_cases e : x = (⟨#[c]⟩ : Str)
            · subst e; rw [show up _ _ _ (⟨#[c]⟩ : Str) = _ from NetD.up_same, show up ka _ tz (⟨#[c]⟩ : Str) = tz from NetD.up_same]
            · rw [show up _ (⟨#[c]⟩ : Str) _ x = _ from NetD.up_ne e, show up ka (⟨#[c]⟩ : Str) tz x = ka x from NetD.up_ne e]
          · by_cases e : jj = i
            · subst e
              rw [hnm] at hjk
              cases hjk
              rw [show up ka _ tz (⟨#[c]⟩ : Str) = tz from NetD.up_same, show up fr _ r0 (⟨#[c]⟩ : Str) = r0 from NetD.up_same, show up tn _ _ (⟨#[c]⟩ : Str) = _ from NetD.up_same]
              refine ⟨⟨a0, cb, sqT_upd (sqT hW) hWd, ?_, ?_⟩, hb0, ⟨by simp; omega, by simp; omega⟩, fun dr hdr' => ?_, fun l hl => ?_⟩
              · exact (RowAt.same (sX.trans eXW) hR0).tp (TP.dct hWd)
              · exact (RowAt.same sW hCb).tp (TP.dct hWd)
              · rcases List.mem_append.mp hdr' with z | z
                · exact hdr r0 (by simp) dr z
                · rcases List.mem_append.mp z with z | z
                  · rcases List.mem_append.mp z with z | z
                    · exact hdr r1 (by simp) dr z
                    · exact hlo1 dr z
                  · first
                      | exact absurd z (List.not_mem_nil)
                      | (rw [List.mem_singleton.mp z]; exact ⟨by simp, fun t ht => .inr (.inl (List.mem_singleton.mp ht))⟩)
              · exact List.mem_append.mpr (.inl (List.mem_append.mpr (.inr (hlch l hl))))
            · have hji' : jj < i := by omega
              have hkn' : kk ≠ (⟨#[c]⟩ : Str) := fun z => hnt (by
                subst z
                exact List.mem_of_getElem? (by rw [List.getElem?_take, if_pos hji']; exact hjk))
              rw [show up ka _ tz kk = ka kk from NetD.up_ne hkn', show up fr _ r0 kk = fr kk from NetD.up_ne hkn', show up tn _ _ kk = tn kk from NetD.up_ne hkn']
              have := hIk jj kk hjk hji'
              exact ⟨(this.1.same s9).tp tpW, this.2⟩
  · rintro σ H7 ⟨⟨o6, o7, o8, o9, o10, o11, o12, o13, o14, rfl⟩, s7, h7t, fr, tn, ka, h7d, hI⟩
    rw [hsz] at h7d hI
    refine ssx_cons (ps_ret (pv 4)) ?_
    walk_at "w"
    have hIk : ∀ k ∈ kl.take n, ∃ j, (kl.take n)[j]? = some k ∧ j < n := fun k hk => by
      obtain ⟨j, hj⟩ := List.mem_iff_getElem?.mp hk
      obtain ⟨hj', _⟩ := List.getElem?_eq_some_iff.mp hj
      exact ⟨j, hj, by omega⟩
    refine k ⟨kl.take n, fr, tn, "a"⟩ d H7 ⟨⟨n, hn1.1, hn1.2, rfl⟩, fun k hk => ?_, fun k hk => ?_, fun k hk dr hdr => ?_, fun j k l hj hl => ?_, ?_⟩ s7 ⟨ka, ?_, fun k hk => ?_⟩
    · obtain ⟨j, hj, hjn⟩ := hIk k hk
      exact (hI j k hj hjn).2.1
    · obtain ⟨j, hj, hjn⟩ := hIk k hk
      exact (hI j k hj hjn).2.2.1
    · obtain ⟨j, hj, hjn⟩ := hIk k hk
      exact (hI j k hj hjn).2.2.2.1 dr hdr
    · obtain ⟨hj', _⟩ := List.getElem?_eq_some_iff.mp hj
      exact (hI j k hj (by rw [hkn] at hj'; exact hj')).2.2.2.2 l hl
    · show ("a" : Str) ∈ kl.take n
      match n, hn1.1 with
      | n + 1, _ => exact List.mem_cons_self ..
    · rw [h7d, List.take_take, Nat.min_self]
    · obtain ⟨j, hj, hjn⟩ := hIk k hk
      exact (hI j k hj hjn).1
end
end K1
namespace K1
open PySem PySem.Spec L2
open PyProof.Rows hiding St
local macro_rules | `(tactic| walk_at "hp") => `(tactic| first | assumption | exact upd_same | (refine' Same.to ?wse ?wsh; (case wse => assumption); (case wsh => walk_at "hp")) | ((rw [upd_ne (by first | assumption | (apply Ne.symm; assumption))]); walk_at "hp"))
local macro_rules | `(tactic| walk_at "sq") => `(tactic| first | assumption | exact sqL (by walk_at "hp") | exact sqT (by walk_at "hp") | (refine' Same.seqTo ?wse ?wsh; (case wse => assumption); (case wsh => walk_at "sq")) | (refine' Same.sqtTo ?wse ?wsh; (case wse => assumption); (case wsh => walk_at "sq")))
local macro_rules | `(tactic| walk_at "w1") => `(tactic| first
  | with_reducible refine w_asg ?_
  | with_reducible refine w_c ?_
  | with_reducible refine w_gname ?_
  | with_reducible refine w_if ?_
  | with_reducible refine w_ifs ?_
  | with_reducible refine w_test ?_
  | with_reducible refine w_tB ?_
  | with_reducible refine w_bl ?_
  | with_reducible refine w_op ?_
  | with_reducible refine w_nil ?_
  | with_reducible refine w_cons ?_
  | with_reducible refine w_cb ?_
  | with_reducible refine w_I0 ?_
  | with_reducible refine w_lst ?_
  | with_reducible refine w_tup ?_
  | with_reducible refine w_sl ?_
  | with_reducible refine w_noPart ?_
  | with_reducible refine w_part ?_
  | with_reducible refine w_int ?_
  | with_reducible refine w_par ?_
  | with_reducible refine w_two ?_
  | with_reducible refine w_par3 ?_
  | with_reducible refine w_three ?_
  | with_reducible refine w_ret ?_
  | with_reducible refine w_drop ?_
  | with_reducible refine w_chain ?_
  | with_reducible refine w_and ?_
  | with_reducible refine w_or ?_
  | with_reducible refine w_not ?_
  | with_reducible refine w_notV ?_
  | with_reducible refine w_andV ?_
  | with_reducible refine w_orV ?_
  | with_reducible refine w_int1 ?_
  | with_reducible refine w_true ?_
  | with_reducible refine w_false ?_
  | with_reducible refine w_for ?_
  | with_reducible refine w_rng1 ?_
  | with_reducible refine w_rng2 ?_
  | with_reducible refine w_iList ?_
  | with_reducible refine w_iTup ?_
  | with_reducible refine w_dget ?_
  | with_reducible refine w_din ?_
  | with_reducible refine w_dnotin ?_
  | with_reducible refine w_dput ?_
  | with_reducible refine w_dget2 ?_
  | with_reducible refine w_fld ?_
  | with_reducible refine w_dnew ?_
  | with_reducible refine w_lc ?_
  | with_reducible refine w_dc ?_
  | with_reducible refine w_iStr ?_
  | with_reducible refine w_str ?_
  | with_reducible refine w_iEnum ?_
  | with_reducible refine w_iZip ?_
  | with_reducible refine w_yes ?_
  | with_reducible refine w_gtup ?_
  | with_reducible refine w_gcons ?_
  | with_reducible refine w_rcons ?_
  | with_reducible refine w_gnil ?_
  | with_reducible refine w_leS ?_
  | with_reducible refine w_isN ?_
  | with_reducible refine w_notN ?_
  | with_reducible refine w_call ?_
  | with_reducible refine w_meth ?_
  | with_reducible refine w_bm ?_
  | with_reducible refine w_bm0 ?_
  | with_reducible refine isi_int ?_
  | with_reducible refine isi_bl_int ?_
  | with_reducible refine isi_int_bl ?_
  | with_reducible refine isi_bl ?_
  | with_reducible refine isi_str ?_
  | with_reducible refine isi_non_dict ?_
  | with_reducible refine isi_int_dict ?_
  | with_reducible refine w_ntrue ?_
  | with_reducible refine w_nfalse ?_
  | with_reducible refine w_wt ?_
  | with_reducible refine w_starD ?_
  | with_reducible refine w_starT ?_
  | with_reducible refine w_listVals ?_
  | with_reducible refine w_iEnumT ?_
  | with_reducible refine w_iEnumS ?_
  | with_reducible refine w_enumS ?_
  | with_reducible refine w_frz ?_
  | with_reducible refine w_iItems ?_
  | with_reducible refine w_iKeys ?_
  | with_reducible refine w_iVals ?_
  | with_reducible refine w_strS ?_
  | with_reducible refine w_daug ?_
  | with_reducible refine w_rAdd ?_
  | with_reducible refine w_sfld ?_
  | ((with_reducible refine' w_var ?wsd ?_); (case wsd => first | rfl | assumption))
  | ((with_reducible refine' w_eq ?wsd ?_); (case wsd => rfl))
  | ((with_reducible refine' w_ne ?wsd ?_); (case wsd => rfl))
  | ((with_reducible refine' w_lenL ?wsd ?_); (case wsd => walk_at "sq"))
  | ((with_reducible refine' w_lenT ?wsd ?_); (case wsd => walk_at "sq"))
  | ((with_reducible refine' w_itL ?wsd ?_); (case wsd => walk_at "sq"))
  | ((with_reducible refine' w_itT ?wsd ?_); (case wsd => walk_at "sq"))
  | ((with_reducible refine' w_rng1v ?wsd ?_); (case wsd => omega))
  | ((with_reducible refine' w_rng2v ?wsd ?_); (case wsd => omega))
  | ((with_reducible refine' w_I ?wsd ?_); (case wsd => walk_at "side"))
  | ((with_reducible refine' w_dtrue ?wsd ?_); (case wsd => first | assumption | omega | rfl | decide))
  | ((with_reducible refine' w_dfalse ?wsd ?_); (case wsd => first | assumption | omega | decide))
  | ((with_reducible refine' w_ndtrue ?wsd ?_); (case wsd => first | assumption | omega | rfl | decide))
  | ((with_reducible refine' w_ndfalse ?wsd ?_); (case wsd => first | assumption | omega | decide))
  | ((with_reducible refine' w_stD ?wsd ?_); (case wsd => walk_at "hp"))
  | ((with_reducible refine' w_stT ?wsd ?_); (case wsd => walk_at "sq"))
  | ((with_reducible refine' w_stL ?wsd ?_); (case wsd => walk_at "sq"))
  | ((with_reducible refine' w_isD ?wsd ?_); (case wsd => walk_at "hp"))
  | ((with_reducible refine' isi_tup ?wsd ?_); (case wsd => walk_at "sq"))
  | ((with_reducible refine' isi_dict ?wsd ?_); (case wsd => walk_at "hp"))
  | ((with_reducible refine' w_lenDv ?wsd ?_); (case wsd => walk_at "hp"))
  | ((with_reducible refine' w_enum ?wsd ?_); (case wsd => walk_at "sq"))
  | ((with_reducible refine' w_enumT ?wsd ?_); (case wsd => walk_at "sq"))
  | ((with_reducible refine' w_tyL ?wsd ?_); (case wsd => walk_at "sq")))
local macro_rules | `(tactic| walk_at "side") => `(tactic| first | omega | decide | (constructor <;> omega) | (constructor <;> decide) | (simp only [List.length_map, List.length_append, List.length_cons, List.length_nil, CDivN, CMul, CPow]; first | omega | decide | (constructor <;> omega)))
local macro_rules | `(tactic| walk_at "w") => `(tactic| repeat (walk_at "w1"))
abbrev PrAt (K : PySem.W.Frag) (H : Hp) (f : Str → V) (q : Addr) (k : Str) : Prop := SqT K H q [.str k, f k]
section
variable {K : PySem.W.Frag} {H : Hp} {a : Addr} {Q : VK} {ks : List Str} {f : Str → V}
theorem prs_kv {qs : List Addr} (h : Paired (PrAt K H f) qs ks) : Paired (fun p (kv : Key × V) => SqT K H p [kV kv.1, kv.2]) qs (mapK ks f) := by
  induction h with
  | nil => exact .nil
  | cons r _ ih => exact .cons r ih
theorem w_dictPs {qs : List Addr} (h1 : SqL K H a (qs.map V.ref)) (h2 : Paired (PrAt K H f) qs ks) (hn : ks.Nodup) (q : ∀ r H', H r = none → Same H H' → H' r = some (.dK (mapK ks f)) → Q (.ref r) H') : rDictP K [.ref a] H Q :=
  ⟨a, qs, mapK ks f, rfl, h1, prs_kv h2, fun p hp => q p _ hp (Same.alloc hp) (by rw [upd_same, merge_new _ _ hn])⟩
theorem w_itemsL {d : Addr} (hd : H d = some (.dK (mapK ks f))) (q : ∀ l ts H', Same H H' → H' l = some (.lst (ts.map V.ref)) → Paired (PrAt K H' f) ts ks → Q (.ref l) H') : LiI.rItemsL (.ref d) H Q := by
  refine ⟨d, _, rfl, hd, fun H1 l0 ts s1 _ _ _ h1 hP1 => q l0 ts H1 s1 h1 ?_⟩
  have key : ∀ {as : List Addr} {bs : List Str}, Paired (fun (t : Addr) (q : Key × V) => H1 t = some (.tup [kV q.1, q.2])) as (mapK bs f) → Paired (PrAt K H1 f) as bs := by
    intro as bs
    induction bs generalizing as with
    | nil => intro h; cases h; exact .nil
    | cons b bs ih => intro h; cases h with | cons r t => exact .cons (sqT r) (ih t)
  exact key hP1
theorem w_listItems {te : TE} {σ : L2.St} (h : te σ H fun x H1 => LiI.rItemsL x H1 Q) : LiI.tListItems te σ H Q := h
end
section
variable {K : PySem.W.Frag} {H H1 : Hp} {σ : St} {Q : VK} {te : TE} {tt : TT} {g : TG} {vs : List Nat} {J : It} {n : Nat} {G : Hp → Prop} {Y : Nat → Hp → V → Hp → Prop}
theorem rlcP (w : Walk J n G Y) (ks : List Str) (f : Str → V) (hl : ks.length = n) (hn : n ≤ 100000) (hG : ∀ H, Same H1 H → G H)
    (hs : ∀ i x H H' k, i < n → ks[i]? = some k → Same H1 H → Y i H x H' →
      ∀ (KT : V → Hp → Prop) (KF : Hp → Prop), (∀ q H4, Same H H4 → H4 q = some (.tup [.str k, f k]) → KT (.ref q) H4) →
      g x (wipe σ vs) H' fun σ2 H2 => wipe σ2 vs = wipe σ vs ∧ tt σ2 H2 fun b H3 => RIte b (te σ2 H3 KT) (KF H3))
    (hd : ∀ D qs H, H1 D = none → Same H1 H → H D = some (.lst (qs.map V.ref)) → Paired (fun q k => H q = some (.tup [.str k, f k])) qs ks → Q (.ref D) H) : RLc g tt te vs σ Q J H1 := by
  refine rlc w (fun D i acc H => ∃ qs : List Addr, acc = qs.map V.ref ∧ D ∉ qs ∧ Paired (fun q k => H q = some (.tup [.str k, f k])) qs (ks.take i)) hn hG ?_ ?_ ?_ ?_
  · intro D H _ _ _
    exact ⟨[], rfl, by simp, .nil⟩
  · rintro D i acc H H' ⟨qs, h1, h2, h3⟩ hk
    refine ⟨qs, h1, h2, ?_⟩
    clear h1
    have key : ∀ {as : List Addr} {bs : List Str}, Paired (fun q k => H q = some (.tup [.str k, f k])) as bs → D ∉ as → Paired (fun q k => H' q = some (.tup [.str k, f k])) as bs := by
      intro as bs h
      induction h with
      | nil => exact fun _ => .nil
      | cons r _ ih => exact fun hd => .cons (hk _ _ (fun z => hd (by simp [z])) r) (ih fun z => hd (List.mem_cons_of_mem _ z))
    exact key h3 h2
  · rintro D i acc x H H' hi hl' hD hDl s ⟨qs, h1, h2, h3⟩ y KT KF hKT hKF
    have hki : ks[i]? = some (ks[i]'(by omega)) := List.getElem?_eq_getElem _
    refine hs i x H H' _ hi hki s y KT KF fun q H4 s4 h4 => hKT _ _ s4 ⟨qs ++ [q], by rw [h1]; simp, ?_, ?_⟩
    · intro z
      rcases List.mem_append.mp z with z | z
      · exact h2 z
      · rw [List.mem_singleton.mp z] at hDl
        rw [s4 _ _ hDl] at h4
        cases h4
    · rw [take_snoc hki]
      exact paired_snoc (paired_imp h3 fun _ _ e => s4 _ _ e) h4
  · rintro D acc H hD s h _ ⟨qs, rfl, _, h3⟩
    rw [← hl, List.take_length] at h3
    exact hd D qs H hD s h h3
end
end K1
namespace K1
open PySem PySem.Spec L2
open PyProof.Rows hiding St
local macro_rules | `(tactic| walk_at "hp") => `(tactic| first | assumption | exact upd_same | (refine' Same.to ?wse ?wsh; (case wse => assumption); (case wsh => walk_at "hp")) | ((rw [upd_ne (by first | assumption | (apply Ne.symm; assumption))]); walk_at "hp"))
local macro_rules | `(tactic| walk_at "sq") => `(tactic| first | assumption | exact sqL (by walk_at "hp") | exact sqT (by walk_at "hp") | (refine' Same.seqTo ?wse ?wsh; (case wse => assumption); (case wsh => walk_at "sq")) | (refine' Same.sqtTo ?wse ?wsh; (case wse => assumption); (case wsh => walk_at "sq")))
local macro_rules | `(tactic| walk_at "w1") => `(tactic| first
  | with_reducible refine w_asg ?_
  | with_reducible refine w_c ?_
  | with_reducible refine w_gname ?_
  | with_reducible refine w_if ?_
  | with_reducible refine w_ifs ?_
  | with_reducible refine w_test ?_
  | with_reducible refine w_tB ?_
  | with_reducible refine w_bl ?_
  | with_reducible refine w_op ?_
  | with_reducible refine w_nil ?_
  | with_reducible refine w_cons ?_
  | with_reducible refine w_cb ?_
  | with_reducible refine w_I0 ?_
  | with_reducible refine w_lst ?_
  | with_reducible refine w_tup ?_
  | with_reducible refine w_sl ?_
  | with_reducible refine w_noPart ?_
  | with_reducible refine w_part ?_
  | with_reducible refine w_int ?_
  | with_reducible refine w_par ?_
  | with_reducible refine w_two ?_
  | with_reducible refine w_par3 ?_
  | with_reducible refine w_three ?_
  | with_reducible refine w_ret ?_
  | with_reducible refine w_drop ?_
  | with_reducible refine w_chain ?_
  | with_reducible refine w_and ?_
  | with_reducible refine w_or ?_
  | with_reducible refine w_not ?_
  | with_reducible refine w_notV ?_
  | with_reducible refine w_andV ?_
  | with_reducible refine w_orV ?_
  | with_reducible refine w_int1 ?_
  | with_reducible refine w_true ?_
  | with_reducible refine w_false ?_
  | with_reducible refine w_for ?_
  | with_reducible refine w_rng1 ?_
  | with_reducible refine w_rng2 ?_
  | with_reducible refine w_iList ?_
  | with_reducible refine w_iTup ?_
  | with_reducible refine w_dget ?_
  | with_reducible refine w_din ?_
  | with_reducible refine w_dnotin ?_
  | with_reducible refine w_dput ?_
  | with_reducible refine w_dget2 ?_
  | with_reducible refine w_fld ?_
  | with_reducible refine w_dnew ?_
  | with_reducible refine w_lc ?_
  | with_reducible refine w_dc ?_
  | with_reducible refine w_iStr ?_
  | with_reducible refine w_str ?_
  | with_reducible refine w_iEnum ?_
  | with_reducible refine w_iZip ?_
  | with_reducible refine w_yes ?_
  | with_reducible refine w_gtup ?_
  | with_reducible refine w_gcons ?_
  | with_reducible refine w_rcons ?_
  | with_reducible refine w_gnil ?_
  | with_reducible refine w_leS ?_
  | with_reducible refine w_isN ?_
  | with_reducible refine w_notN ?_
  | with_reducible refine w_call ?_
  | with_reducible refine w_meth ?_
  | with_reducible refine w_bm ?_
  | with_reducible refine w_bm0 ?_
  | with_reducible refine isi_int ?_
  | with_reducible refine isi_bl_int ?_
  | with_reducible refine isi_int_bl ?_
  | with_reducible refine isi_bl ?_
  | with_reducible refine isi_str ?_
  | with_reducible refine isi_non_dict ?_
  | with_reducible refine isi_int_dict ?_
  | with_reducible refine w_ntrue ?_
  | with_reducible refine w_nfalse ?_
  | with_reducible refine w_wt ?_
  | with_reducible refine w_starD ?_
  | with_reducible refine w_starT ?_
  | with_reducible refine w_listVals ?_
  | with_reducible refine w_iEnumT ?_
  | with_reducible refine w_iEnumS ?_
  | with_reducible refine w_enumS ?_
  | with_reducible refine w_frz ?_
  | with_reducible refine w_iItems ?_
  | with_reducible refine w_iKeys ?_
  | with_reducible refine w_iVals ?_
  | with_reducible refine w_strS ?_
  | with_reducible refine w_daug ?_
  | with_reducible refine w_rAdd ?_
  | with_reducible refine w_sfld ?_
  | ((with_reducible refine' w_var ?wsd ?_); (case wsd => first | rfl | assumption))
  | ((with_reducible refine' w_eq ?wsd ?_); (case wsd => rfl))
  | ((with_reducible refine' w_ne ?wsd ?_); (case wsd => rfl))
  | ((with_reducible refine' w_lenL ?wsd ?_); (case wsd => walk_at "sq"))
  | ((with_reducible refine' w_lenT ?wsd ?_); (case wsd => walk_at "sq"))
  | ((with_reducible refine' w_itL ?wsd ?_); (case wsd => walk_at "sq"))
  | ((with_reducible refine' w_itT ?wsd ?_); (case wsd => walk_at "sq"))
  | ((with_reducible refine' w_rng1v ?wsd ?_); (case wsd => omega))
  | ((with_reducible refine' w_rng2v ?wsd ?_); (case wsd => omega))
  | ((with_reducible refine' w_I ?wsd ?_); (case wsd => walk_at "side"))
  | ((with_reducible refine' w_dtrue ?wsd ?_); (case wsd => first | assumption | omega | rfl | decide))
  | ((with_reducible refine' w_dfalse ?wsd ?_); (case wsd => first | assumption | omega | decide))
  | ((with_reducible refine' w_ndtrue ?wsd ?_); (case wsd => first | assumption | omega | rfl | decide))
  | ((with_reducible refine' w_ndfalse ?wsd ?_); (case wsd => first | assumption | omega | decide))
  | ((with_reducible refine' w_stD ?wsd ?_); (case wsd => walk_at "hp"))
  | ((with_reducible refine' w_stT ?wsd ?_); (case wsd => walk_at "sq"))
  | ((with_reducible refine' w_stL ?wsd ?_); (case wsd => walk_at "sq"))
  | ((with_reducible refine' w_isD ?wsd ?_); (case wsd => walk_at "hp"))
  | ((with_reducible refine' isi_tup ?wsd ?_); (case wsd => walk_at "sq"))
  | ((with_reducible refine' isi_dict ?wsd ?_); (case wsd => walk_at "hp"))
  | ((with_reducible refine' w_lenDv ?wsd ?_); (case wsd => walk_at "hp"))
  | ((with_reducible refine' w_enum ?wsd ?_); (case wsd => walk_at "sq"))
  | ((with_reducible refine' w_enumT ?wsd ?_); (case wsd => walk_at "sq"))
  | ((with_reducible refine' w_tyL ?wsd ?_); (case wsd => walk_at "sq")))
local macro_rules | `(tactic| walk_at "side") => `(tactic| first | omega | decide | (constructor <;> omega) | (constructor <;> decide) | (simp only [List.length_map, List.length_append, List.length_cons, List.length_nil, CDivN, CMul, CPow]; first | omega | decide | (constructor <;> omega)))
local macro_rules | `(tactic| walk_at "w") => `(tactic| repeat (walk_at "w1"))
def spLawPlay (K : PySem.W.Frag) : Sp := fun vs H Q _ => ∃ (a d sd wd : Addr) (p most : Nat) (N : NetD) (p0 w0 : Str → Nat) (ws : List Str), vs = [.ref a, .int p, .ref d, .ref sd, .ref wd, .int most] ∧ Scr K H a ∧ p ≤ 10000 ∧ most ≤ 5000 ∧ KnotsAt K H d N ∧ N.Ok ∧
  H sd = some (DI N.names fun k => (p0 k : Int)) ∧ (∀ k ∈ N.names, p0 k < N.len k) ∧ H wd = some (DI ws fun k => (w0 k : Int)) ∧ Zr ws (fun k => (w0 k : Int)) ∧ (∀ k ∈ ws, k ∈ N.names) ∧
  (∀ t x y z H', Same H H' → H' t = some (.tup [x, y, z, .bl false]) → Q (.ref t) H') ∧
  ∀ t tk od st us H', Same H H' → H' t = some (.tup [.ref tk, .ref od, .ref st, .bl true]) → H' tk = some (DI N.names fun k => (us k : Int)) → H' od = some (DI ["o", "p"] fun k => (N.got p0 us k : Int)) → H' st = some (DI N.names fun k => (N.plc k (p0 k) (us k) : Int)) → Full N w0 p0 us → tot N us ≤ most → Q (.ref t) H'
abbrev N_law_play : List Str := ["_law_script", "_law_at", "_law_knots_here", "_law_standing", "_law_waiting_here", "_law_most", "_law_name", "_law_out", "_law_taken", "_law_turn", "_law_near", "_law_drop_here", "_law_target"]
theorem sc_law_play : FnScope N_law_play ["_law_script", "_law_at", "_law_knots_here", "_law_standing", "_law_waiting_here", "_law_most"] (defScope s_law_play) := ⟨rfl, rfl, rfl, by decide +kernel, rfl, by decide +kernel, by decide +kernel⟩
section
variable {P : Program} {w : World} {K : PySem.W.Frag} {mg : Str → Option Value} {base : Heap}
theorem ok_law_play (T : TX K mg) : Fok P w K mg base CX0 2 (He.ga K "_law_play") ["_law_script", "_law_at", "_law_knots_here", "_law_standing", "_law_waiting_here", "_law_most"] [] (spLawPlay K) := by
  obtain ⟨fd, F⟩ := T.fn_law_play
  refine ⟨⟨fd, [], ?_, F.bindsN fun _ _ _ _ _ _ us hl => match us, hl with | [_, _, _, _, _, _], _ => rfl, .nil⟩, F.kp⟩
  refine F.ok sc_law_play (fun vs H Q E h => ?_) (fun cdv A outer s H vs Q E hr h => ?_)
  · obtain ⟨_, _, _, _, _, _, _, _, _, _, rfl, _⟩ := h
    rfl
  obtain ⟨a, d, sd, wd, p, most, N, p0, w0, ws, rfl, hS, hp, hmost, hkn, hok, hsd, hpl, hwd, hzr, hwn, kF, kT⟩ := h
  have hu := hu_of hr
  have hln := hok.len
  have O_law_draw := @ok_draw P w K mg base T
  have O_law_drop := @ok_law_drop P w K mg base T
  obtain ⟨ka, hka, hkk⟩ := id hkn
  refine ssx_nox ?_
  refine ssx_cons (ps_asg (pe_tup (pa_cons (pe_callTy (q_dictP K rfl) rfl T.f_dict bt_dict (pa_cons (LiI.pe_listItems rfl (pv 3) rfl T.f_list bt_list) pa_nil)) (pa_cons (pe_callTy (q_dictP K rfl) rfl T.f_dict bt_dict (pa_cons (pe_lock (pe_lc (own := [("_law_name", 6)]) rfl sc_law_play.nd (pi_keys (pv 2)) (blkOk_by (N := N_law_play) (sc := defScope s_law_play) (by decide +kernel)) (fun _ _ _ _ _ => (pg_name (i := 6) sc_law_play.nd rfl (Or.inl rfl))) (fun _ _ _ _ _ => pts_nil) (fun _ _ _ _ _ => (pe_tup (pa_cons (pv 6) (pa_cons (pe_dget2 hu (pv 4) (pv 6) pe_int ⟨rfl, rfl, rfl, rfl⟩) pa_nil)))))) pa_nil)) pa_nil))) (qg_tup (n := 2) K rfl (pgs_cons (pg_name (i := 3) sc_law_play.nd rfl (Or.inl rfl)) (pgs_cons (pg_name (i := 4) sc_law_play.nd rfl (Or.inr rfl)) pgs_nil)))) ?_
  walk_at "w"
  show LiI.tListItems _ _ _ _
  unfold LiI.tListItems
  walk_at "w"
  refine ⟨sd, _, rfl, hsd, fun H1 l0 ts s1 hl0 hts htl h1 hP1 => ?_⟩
  walk_at "w"
  have hP1' : Paired (PrAt K H1 fun k => .int (p0 k : Int)) ts N.names := by
    have key : ∀ {as : List Addr} {bs : List Str}, Paired (fun (t : Addr) (q : Key × V) => H1 t = some (.tup [kV q.1, q.2])) as (mapK bs fun k => V.int (p0 k : Int)) → Paired (PrAt K H1 fun k => .int (p0 k : Int)) as bs := by
      intro as bs
      induction bs generalizing as with
      | nil => intro h; cases h; exact .nil
      | cons b bs ih => intro h; cases h with | cons r t => exact .cons (sqT r) (ih t)
    exact key hP1
  refine w_dictPs (sqL h1) hP1' hok.nodup fun st H2 hst s2 h2s => ?_
  walk_at "w"
  have s02 : Same H H2 := Same.trans s1 s2
  have h2d := s02 _ _ hka
  have hst0 : H st = none := Same.free s1 hst
  refine w_lockE h2d fun od => ?_
  walk_at "w"
  refine w_kys frz_at ?_
  have hdst : st ≠ d := fun z => by rw [z, hka] at hst0; cases hst0
  have hdwd : wd ≠ d := fun z => by
    rw [z, hka] at hwd
    have e := HO.dK.inj (Option.some.inj hwd)
    obtain ⟨k, hk⟩ : ∃ k, k ∈ N.names := List.exists_mem_of_length_pos (by omega)
    cases hN : N.names with
    | nil => rw [hN] at hk; cases hk
    | cons b bs => rw [hN] at e; cases ws with
      | nil => simp [mapK] at e
      | cons c cs => simp [mapK] at e
  refine rlcP walk_ks N.names (fun k => .int (w0 k : Int)) rfl (by omega) (fun H' s' => s' _ _ frz_at) ?_ ?_
  · rintro i y _ H3 k hi hk s3 ⟨rfl, k0, hk0, rfl⟩ KT KF hKT
    rw [hk] at hk0; cases hk0
    walk_at "w"
    refine ⟨rfl, ?_⟩
    walk_at "w"
    have h3w : H3 wd = some (DI ws fun k => (w0 k : Int)) := s3 _ _ (by rw [upd_ne hdwd]; exact s02 _ _ hwd)
    refine w_getOI h3w hzr ?_
    walk_at "w"
    refine w_newT (by simp) fun q H4 hq s4 h4 => ?_
    exact hKT _ _ s4 h4
  intro D qs H3 hD s3 h3D hP3
  refine ⟨s3 _ _ frz_at, ?_⟩
  have hDd : D ≠ d := fun z => by rw [z, upd_same] at hD; cases hD
  have hD2 : H2 D = none := by rw [upd_ne hDd] at hD; exact hD
  have h3d := s3 _ _ (frz_at (H := H2) (a := d) (o := od))
  have s4 : Same H2 (upd H3 d (.dK (mapK N.names fun k => .ref (ka k)))) := Same.unlock h2d s3
  have h4D : upd H3 d (.dK (mapK N.names fun k => .ref (ka k))) D = some (.lst (qs.map V.ref)) := by rw [upd_ne hDd]; exact h3D
  have hP4 : Paired (PrAt K (upd H3 d (.dK (mapK N.names fun k => .ref (ka k)))) fun k => .int (w0 k : Int)) qs N.names := paired_imp hP3 fun q _ e => sqT (by rw [upd_ne (fun z => by rw [z, h3d] at e; cases e)]; exact e)
  generalize upd H3 d (.dK (mapK N.names fun k => .ref (ka k))) = H4 at *
  walk_at "w"
  refine w_dictPs (sqL h4D) hP4 hok.nodup fun wk H5 hwk s5 h5w => ?_
  walk_at "w"
  refine w_newT (by simp) fun tp H6 htp s6 h6 => ?_
  walk_at "w"
  refine w_tu (sqT h6) rfl ?_
  walk_at "w"
  have s06 : Same H H6 := s02.trans (s4.trans (s5.trans s6))
  have hwk0 : H wk = none := (s02.trans s4).free hwk
  have h6s : H6 st = some (DI N.names fun k => (p0 k : Int)) := s6 _ _ (s5 _ _ (s4 _ _ h2s))
  have h6w : H6 wk = some (DI N.names fun k => (w0 k : Int)) := s6 _ _ h5w
  have hsw : st ≠ wk := fun z => by rw [← z, s4 _ _ h2s] at hwk; cases hwk
  clear hP1 hP1' h1 hl0 hts htl s1 s2 h2s h2d s3 hP3 hP4 h4D h3D h3d s4 s5 s6 h5w h6 htp hD hD2
  refine ssx_cons (ps_par (i := 7) (j := 8) rfl sc_law_play.nd rfl rfl (by decide) rfl rfl (pa_cons (pe_disp (pps_cons pe_str pe_int (pps_cons pe_str pe_int pps_nil)) rfl rfl (fun z => by cases z) (by decide)) (pa_cons (pe_callTy (q_dictP K rfl) rfl T.f_dict bt_dict (pa_cons (pe_lc (own := [("_law_name", 6)]) rfl sc_law_play.nd (qi_list K (pe_callB (q_sortS K) rfl T.f_sorted bb_sorted (pa_cons (pe_callTy (k_listD rfl) rfl T.f_list bt_list (pa_cons (pv 2) pa_nil)) pa_nil))) (blkOk_by (N := N_law_play) (sc := defScope s_law_play) (by decide +kernel)) (fun _ _ _ _ _ => (pg_name (i := 6) sc_law_play.nd rfl (Or.inl rfl))) (fun _ _ _ _ _ => pts_nil) (fun _ _ _ _ _ => (pe_tup (pa_cons (pv 6) (pa_cons pe_int pa_nil))))) pa_nil)) pa_nil)) rfl) ?_
  intro od7 hod
  have s7 : Same H6 (upd H6 od7 (.dK [])) := Same.alloc hod
  have h7 : (upd H6 od7 (.dK [])) od7 = some (.dK []) := upd_same
  generalize upd H6 od7 (.dK []) = H7 at *
  refine w_c (w_c ?_)
  refine w_c (w_c ?_)
  refine ⟨h7, [((Sum.inr ("o" : Str) : Key), V.int 0), (Sum.inr ("p" : Str), V.int 0)], rfl, by simp, ?_⟩
  have hodd : H od7 = none := s06.free hod
  have hws7 : st ≠ od7 ∧ wk ≠ od7 := ⟨fun z => (by rw [← z, h6s] at hod; cases hod), fun z => (by rw [← z, h6w] at hod; cases hod)⟩
  have s8 : Same H (upd H7 od7 (.dK (mergeK [] [((Sum.inr ("o" : Str) : Key), V.int 0), (Sum.inr ("p" : Str), V.int 0)]))) := Same.mut (s06.trans s7) hodd
  have h8o : (upd H7 od7 (.dK (mergeK [] [((Sum.inr ("o" : Str) : Key), V.int 0), (Sum.inr ("p" : Str), V.int 0)]))) od7 = some (DI ["o", "p"] fun _ => 0) := by
    rw [upd_same, show [((Sum.inr ("o" : Str) : Key), V.int 0), (Sum.inr ("p" : Str), V.int 0)] = mapK ["o", "p"] fun _ => V.int 0 from rfl, merge_new _ _ (by decide +kernel)]
  have h8s : (upd H7 od7 (.dK (mergeK [] [((Sum.inr ("o" : Str) : Key), V.int 0), (Sum.inr ("p" : Str), V.int 0)]))) st = some (DI N.names fun k => (p0 k : Int)) := by rw [upd_ne hws7.1]; exact s7 _ _ h6s
  have h8w : (upd H7 od7 (.dK (mergeK [] [((Sum.inr ("o" : Str) : Key), V.int 0), (Sum.inr ("p" : Str), V.int 0)]))) wk = some (DI N.names fun k => (w0 k : Int)) := by rw [upd_ne hws7.2]; exact s7 _ _ h6w
  generalize upd H7 od7 (.dK (mergeK [] [((Sum.inr ("o" : Str) : Key), V.int 0), (Sum.inr ("p" : Str), V.int 0)])) = H8 at *
  clear s7 h7 h6s h6w hod s06
  walk_at "w"
  refine w_listD (s8 _ _ hka) fun l9 H9 hl9 s9 h9 => ?_
  walk_at "w"
  refine w_sortS (ks := N.names) (xs := N.names) (sqL h9) (by omega) (List.Perm.refl _) (names_sorted hok) fun l10 HA hlA sA hA => ?_
  walk_at "w"
  refine rlcP (walk_list (xs := N.names.map V.str)) N.names (fun _ => .int 0) (by rw [List.length_map]) (by rw [List.length_map]; omega) (fun H' s' => sqL (s' _ _ hA)) ?_ ?_
  · rintro i y _ H3 k hi hk s3 ⟨rfl, hx⟩ KT KF hKT
    obtain ⟨y', e1, rfl⟩ := map_get hx
    rw [hk] at e1; cases e1
    walk_at "w"
    refine ⟨rfl, ?_⟩
    walk_at "w"
    refine w_newT (by simp) fun q H4 hq s4 h4 => ?_
    exact hKT _ _ s4 h4
  intro D qs HB hD sB hBD hPB
  walk_at "w"
  refine w_dictPs (sqL hBD) (paired_imp hPB fun _ _ e => sqT e) hok.nodup fun tk HC htk sC hCt => ?_
  walk_at "w"
  refine ⟨_, _, rfl, ?_⟩
  walk_at "w"
  have s8C := s9.trans (sA.trans (sB.trans sC))
  have s0C := s8.trans s8C
  have hCs := s8C _ _ h8s
  have hCw := s8C _ _ h8w
  have hCo := s8C _ _ h8o
  have htk8 : H8 tk = none := (s9.trans (sA.trans sB)).free htk
  have htk0 : H tk = none := s8.free htk8
  have hnt : st ≠ tk ∧ wk ≠ tk ∧ od7 ≠ tk := ⟨fun z => (by rw [← z, h8s] at htk8; cases htk8), fun z => (by rw [← z, h8w] at htk8; cases htk8), fun z => (by rw [← z, h8o] at htk8; cases htk8)⟩
  clear hPB hBD sB sA hA s9 h9 sC hD htk hl9 hlA s8C s8 h8o h8s h8w htk8
  refine ssx_cons (ps_for PassesOwn.never rfl (pi_range1 rfl T.f_range (pa_cons (pv 5) pa_nil)) (pg_name (i := 9) sc_law_play.nd rfl (Or.inl rfl)) SSX.ps) ?_
  walk_at "w"
  rw [Int.toNat_natCast]
  refine for_range (n := most) (fun j σ H7 => (∃ o6 o9 o10 o11 o12, σ = [some (.ref a), some (.int p), some (.ref d), some (.ref st), some (.ref wk), some (.int most), o6, some (.ref od7), some (.ref tk), o9, o10, o11, o12]) ∧ Same H H7 ∧ ∃ u, H7 st = some (DI N.names fun k => (N.plc k (p0 k) (u k) : Int)) ∧ H7 wk = some (DI N.names fun k => N.wt w0 p0 u k) ∧ H7 od7 = some (DI ["o", "p"] fun k => (N.got p0 u k : Int)) ∧ H7 tk = some (DI N.names fun k => (u k : Int)) ∧ N.Reach w0 p0 u ∧ tot N u = j) ?_ ?_ ?_
  · refine ⟨⟨_, _, _, _, _, rfl⟩, s0C, fun _ => 0, hCs, ?_, ?_, hCt, .zero, ?_⟩
    · rw [hCw]; exact congrArg some (DI_congr fun k _ => by rw [wt_zero])
    · rw [hCo]; exact congrArg some (DI_congr fun k _ => by rw [got_zero]; rfl)
    · have : ∀ l : List Str, NetD.sm (fun _ => 0) l = 0 := fun l => by
        induction l with
        | nil => rfl
        | cons b l ih => show 0 + _ = 0; rw [ih]
      exact this _
  · rintro j σ H7 hj ⟨⟨o6, o9, o10, o11, o12, rfl⟩, s7, u, h7s, h7w, h7o, h7t, hR, htu⟩
    rw [Int.zero_add]
    walk_at "w"
    refine ssx_cons (ps_setLc (i := 10) (own := [("_law_name", 6)]) rfl sc_law_play.nd rfl rfl (sw_true rfl rfl rfl (by decide +kernel)) (qi_list K (pe_callB (q_sortS K) rfl T.f_sorted bb_sorted (pa_cons (pe_callTy (k_listD rfl) rfl T.f_list bt_list (pa_cons (pv 2) pa_nil)) pa_nil))) (blkOk_by (N := N_law_play) (sc := defScope s_law_play) (by decide +kernel)) (fun _ _ _ _ _ => (pg_name (i := 6) sc_law_play.nd rfl (Or.inl rfl))) (fun _ _ _ _ _ => (pts_one (pt_cmpR op_gt (pe_dget hu (pv 4) (pv 6) (fun _ _ => rfl)) pe_int (nomark _)))) (fun _ _ _ _ _ => (pv 6))) ?_
    walk_at "w"
    refine w_listD (s7 _ _ hka) fun l8 H8 hl8 s8 h8 => ?_
    walk_at "w"
    refine w_sortS (ks := N.names) (xs := N.names) (sqL h8) (by omega) (List.Perm.refl _) (names_sorted hok) fun l9 H9 hl9 s9 h9 => ?_
    walk_at "w"
    have s79 := s8.trans s9
    refine rlcV (walk_list (xs := N.names.map V.str)) (fun i acc => acc = ((N.names.take i).filter fun k => decide (0 < N.wt w0 p0 u k)).map V.str) (by rw [List.length_map]; omega) (fun H' s' => sqL (s' _ _ h9)) rfl ?_ ?_
    · rintro i acc x _ H4 hi _ s4 rfl ⟨rfl, hx⟩ KT KF hKT hKF
      obtain ⟨k, hk, rfl⟩ := map_get hx
      have hkn' := List.mem_of_getElem? hk
      walk_at "w"
      refine ⟨rfl, ?_⟩
      walk_at "w"
      refine w_getI (s4 _ _ (s79 _ _ h7w)) hkn' ?_
      walk_at "w"
      refine w_dcases (fun hlt => ?_) fun hlt => ?_
      · walk_at "w"
        refine hKT _ _ (Same.refl _) ?_
        rw [take_snoc hk, List.filter_append, List.map_append]
        simp [hlt]
      · refine hKF _ (Same.refl _) ?_
        rw [take_snoc hk, List.filter_append, List.map_append]
        simp [hlt]
    intro ln acc HB hln0 sB hB _ hacc
    rw [List.length_map, List.take_length] at hacc
    subst hacc
    obtain ⟨nr, hnr⟩ : ∃ nr, nr = N.names.filter fun k => decide (0 < N.wt w0 p0 u k) := ⟨_, rfl⟩
    rw [← hnr] at hB
    have hnl : nr.length ≤ 4 := by rw [hnr]; exact Nat.le_trans (List.length_filter_le _ _) hln.2
    have hnm : ∀ k, k ∈ nr ↔ k ∈ N.names ∧ 0 < N.wt w0 p0 u k := fun k => by rw [hnr, List.mem_filter]; simp
    have s7B := s79.trans sB
    walk_at "w"
    refine ssx_cons (ps_if (pt_cmpR (q_eqD K hr.units) (pv 10) (pe_lst pa_nil) (nomark _)) SSX.ps SSX.ps) ?_
    walk_at "w"
    refine w_newL (by simp) fun e HC he sC hC => ?_
    refine w_eqNilL (sC.seq (sqL hB)) (sqL hC) (DL.strs nr fun x hx => names_ltr hok x ((hnm x).mp hx).1) ?_
    walk_at "w"
    have s7C := s7B.trans sC
    have hCs := s7C _ _ h7s
    have hCw := s7C _ _ h7w
    have hCo := s7C _ _ h7o
    have hCt := s7C _ _ h7t
    have hCn := sC _ _ hB
    have s0D := s7.trans s7C
    clear s7B s79 sB sC hB hC he h8 h9 s8 s9
    refine w_both (fun hem => ?_) fun hem => ?_
    · have hnil : nr = [] := by cases nr with | nil => rfl | cons _ _ => simp at hem
      have hrest : ∀ k ∈ N.names, N.wt w0 p0 u k ≤ 0 := fun k hk => by
        have := hnm k
        rw [hnil] at this
        have h' : ¬ (k ∈ N.names ∧ 0 < N.wt w0 p0 u k) := fun z => by simpa using this.mpr z
        have : ¬ 0 < N.wt w0 p0 u k := fun z => h' ⟨hk, z⟩
        omega
      refine ssx_cons (ps_ret (pe_tup (pa_cons (pv 8) (pa_cons (pv 7) (pa_cons (pv 3) (pa_cons pe_bl pa_nil)))))) ?_
      walk_at "w"
      refine w_newT (by simp) fun t HE ht sE hE => ?_
      exact kT t tk od7 st u HE (s0D.trans sE) hE (sE _ _ hCt) (sE _ _ hCo) (sE _ _ hCs) ⟨hR, hrest, by omega⟩ (by omega)
    refine ssx_nil ?_
    have hnpos : 0 < nr.length := by cases nr with | nil => simp at hem | cons _ _ => simp
    refine ssx_cons (ps_set (i := 6) sc_law_play.nd rfl (Or.inl rfl) (pe_ix (q_ixL K) (pv 10) (pe_callF O_law_draw (hr.mono (by decide)) rfl T.g__law_draw pass0 (pa_cons (pv 0) (pa_cons (pe_op op_add (pv 1) (pe_op op_modN (pv 9) pe_int)) (pa_cons (pe_callB (q_len K) rfl T.f_len bb_len (pa_cons (pv 10) pa_nil)) pa_nil)))) (fun _ _ => rfl))) ?_
    walk_at "w"
    have hfm : 0 ≤ ((j : Nat) : Int).fmod 97 ∧ ((j : Nat) : Int).fmod 97 < 97 := ⟨Int.fmod_nonneg_of_pos _ (by decide), Int.fmod_lt_of_pos _ (by decide)⟩
    rw [List.length_map]
    refine draw_use (hS.same s0D) ⟨by omega, by omega⟩ ⟨by omega, by omega⟩ fun r HD hrl sD => ?_
    have hrl' : r < nr.length := by omega
    obtain ⟨k0, hk0⟩ : ∃ k0, k0 = nr[r]'hrl' := ⟨_, rfl⟩
    have hk0n := (hnm k0).mp (hk0 ▸ List.getElem_mem _)
    refine w_ixL (v := .str k0) (sqL (sD _ _ hCn)) (atI_nat (by rw [List.getElem?_map, List.getElem?_eq_getElem hrl', hk0]; rfl)) ?_
    walk_at "w"
    have hplt := N.plc_lt (hok.pos hk0n.1) (hpl k0 hk0n.1) (u k0)
    refine ssx_cons (ps_asg (pe_callF O_law_drop (hr.mono (by decide)) rfl T.g__law_drop pass0 (pa_cons (pv 2) (pa_cons (pv 6) (pa_cons (pe_dget hu (pv 3) (pv 6) (fun _ _ => rfl)) pa_nil)))) (qg_tup (n := 2) K rfl (pgs_cons (pg_name (i := 11) sc_law_play.nd rfl (Or.inl rfl)) (pgs_cons (pg_sub (pv 3) (pv 6) (set_dict hu)) pgs_nil)))) ?_
    walk_at "w"
    refine w_getI (sD _ _ hCs) hk0n.1 ?_
    walk_at "w"
    refine ⟨d, k0, _, N, rfl, hkn.same (s0D.trans sD), hok, hk0n.1, hplt, fun t q HE sE hEt hEq => ?_⟩
    refine w_tu (sqT hEt) rfl ?_
    walk_at "w"
    have sCE := sD.trans sE
    have hEs := sCE _ _ hCs
    have hEw := sCE _ _ hCw
    have hEo := sCE _ _ hCo
    have hEtk := sCE _ _ hCt
    have s0E := s0D.trans sCE
    clear hCs hCw hCo hCt hCn sD sE sCE s0D
    refine w_var (v := .ref st) rfl ?_
    refine w_var (v := .str k0) rfl ?_
    show RPut (.ref st) (.str k0) _ HE _
    refine w_putI hEs (by omega) ?_
    rw [ins_same hk0n.1]
    walk_at "w"
    have hst0 : H st = none := by assumption
    obtain ⟨u', hu'⟩ : ∃ u', u' = up u k0 (u k0 + 1) := ⟨_, rfl⟩
    have hR' : N.Reach w0 p0 u' := by rw [hu']; exact .step hR hk0n.1 (by omega)
    have htu' : tot N u' = j + 1 := by rw [hu', tot_up hok hk0n.1, htu]
    obtain ⟨dr, hdr⟩ : ∃ dr, dr = N.dropAt k0 (N.plc k0 (p0 k0) (u k0)) := ⟨_, rfl⟩
    rw [← hdr] at hEq
    have hfl : ∀ x, N.fall k0 (N.plc k0 (p0 k0) (u k0)) 1 x = dr.count x := fun x => by
      rw [hdr]; show 0 + _ = _; rw [Nat.zero_add]; rfl
    have hdm : dr ∈ N.rows k0 := by
      rw [hdr]; unfold NetD.dropAt
      rw [List.getD_eq_getElem?_getD, List.getElem?_eq_getElem (show _ < (N.rows k0).length from hplt)]
      exact List.getElem_mem _
    have hdo := hok.dr k0 hk0n.1 dr hdm
    have e6 : (up (fun k => (N.plc k (p0 k) (u k) : Int)) k0 (N.nxt k0 (N.plc k0 (p0 k0) (u k0)) : Int)) = fun k => (N.plc k (p0 k) (u' k) : Int) := funext fun x => by
      rw [hu']
      by_cases e : x = k0
      · subst e; rw [show up _ x _ x = _ from NetD.up_same, show up u x (u x + 1) x = u x + 1 from NetD.up_same]; rfl
      · rw [show up _ k0 _ x = _ from NetD.up_ne e, show up u k0 (u k0 + 1) x = u x from NetD.up_ne e]
    rw [e6]
    have s0F := Same.mut (o := DI N.names fun k => (N.plc k (p0 k) (u' k) : Int)) s0E hst0
    have hFs : (upd HE st (DI N.names fun k => (N.plc k (p0 k) (u' k) : Int))) st = some (DI N.names fun k => (N.plc k (p0 k) (u' k) : Int)) := upd_same
    have hFw : (upd HE st (DI N.names fun k => (N.plc k (p0 k) (u' k) : Int))) wk = some (DI N.names fun k => N.wt w0 p0 u k) := by rw [upd_ne hsw.symm]; exact hEw
    have hFo : (upd HE st (DI N.names fun k => (N.plc k (p0 k) (u' k) : Int))) od7 = some (DI ["o", "p"] fun k => (N.got p0 u k : Int)) := by rw [upd_ne hws7.1.symm]; exact hEo
    have hFt : (upd HE st (DI N.names fun k => (N.plc k (p0 k) (u' k) : Int))) tk = some (DI N.names fun k => (u k : Int)) := by rw [upd_ne hnt.1.symm]; exact hEtk
    have hFq : SqT K (upd HE st (DI N.names fun k => (N.plc k (p0 k) (u' k) : Int))) q (dr.map V.str) := sqT_upd hEq hEs
    generalize upd HE st (DI N.names fun k => (N.plc k (p0 k) (u' k) : Int)) = HF at *
    clear hEs hEw hEo hEtk hEt hEq s0E e6
    refine ssx_cons (ps_dput hu (pv 4) (pv 6) (pe_op op_sub (pe_dget hu (pv 4) (pv 6) (fun _ _ => rfl)) pe_int) rfl) ?_
    walk_at "w"
    refine w_getI hFw hk0n.1 ?_
    walk_at "w"
    refine w_putI hFw (by omega) ?_
    rw [ins_same hk0n.1]
    obtain ⟨wf, hwf⟩ : ∃ wf, wf = up (fun k => N.wt w0 p0 u k) k0 (N.wt w0 p0 u k0 - 1) := ⟨_, rfl⟩
    rw [← hwf]
    have s0G := Same.mut (o := DI N.names wf) s0F hwk0
    have hGs : (upd HF wk (DI N.names wf)) st = some (DI N.names fun k => (N.plc k (p0 k) (u' k) : Int)) := by rw [upd_ne hsw]; exact hFs
    have hGw : (upd HF wk (DI N.names wf)) wk = some (DI N.names wf) := upd_same
    have hGo : (upd HF wk (DI N.names wf)) od7 = some (DI ["o", "p"] fun k => (N.got p0 u k : Int)) := by rw [upd_ne hws7.2.symm]; exact hFo
    have hGt : (upd HF wk (DI N.names wf)) tk = some (DI N.names fun k => (u k : Int)) := by rw [upd_ne hnt.2.1.symm]; exact hFt
    have hGq : SqT K (upd HF wk (DI N.names wf)) q (dr.map V.str) := sqT_upd hFq hFw
    generalize upd HF wk (DI N.names wf) = HG at *
    clear hFs hFw hFo hFt hFq s0F
    refine ssx_cons (ps_dput hu (pv 8) (pv 6) (pe_op op_add (pe_dget hu (pv 8) (pv 6) (fun _ _ => rfl)) pe_int) rfl) ?_
    walk_at "w"
    refine w_getI hGt hk0n.1 ?_
    walk_at "w"
    refine w_putI hGt (by omega) ?_
    rw [ins_same hk0n.1]
    have e7 : (up (fun k => (u k : Int)) k0 ((u k0 : Int) + 1)) = fun k => (u' k : Int) := funext fun x => by
      rw [hu']
      by_cases e : x = k0
      · subst e; rw [show up _ x _ x = _ from NetD.up_same, show up u x (u x + 1) x = u x + 1 from NetD.up_same]; omega
      · rw [show up _ k0 _ x = _ from NetD.up_ne e, show up u k0 (u k0 + 1) x = u x from NetD.up_ne e]
    rw [e7]
    have s0H := Same.mut (o := DI N.names fun k => (u' k : Int)) s0G htk0
    have hHs : (upd HG tk (DI N.names fun k => (u' k : Int))) st = some (DI N.names fun k => (N.plc k (p0 k) (u' k) : Int)) := by rw [upd_ne hnt.1]; exact hGs
    have hHw : (upd HG tk (DI N.names fun k => (u' k : Int))) wk = some (DI N.names wf) := by rw [upd_ne hnt.2.1]; exact hGw
    have hHo : (upd HG tk (DI N.names fun k => (u' k : Int))) od7 = some (DI ["o", "p"] fun k => (N.got p0 u k : Int)) := by rw [upd_ne hnt.2.2]; exact hGo
    have hHt : (upd HG tk (DI N.names fun k => (u' k : Int))) tk = some (DI N.names fun k => (u' k : Int)) := upd_same
    have hHq : SqT K (upd HG tk (DI N.names fun k => (u' k : Int))) q (dr.map V.str) := sqT_upd hGq hGt
    generalize upd HG tk (DI N.names fun k => (u' k : Int)) = HH at *
    clear hGs hGw hGo hGt hGq s0G e7
    refine ssx_cons (ps_for PassesOwn.never rfl (qi_tup K (pv 11)) (pg_name (i := 12) sc_law_play.nd rfl (Or.inl rfl)) SSX.ps) ?_
    walk_at "w"
    refine for_txt (xs := dr) (fun i σ HI => (∃ o12, σ = [some (.ref a), some (.int p), some (.ref d), some (.ref st), some (.ref wk), some (.int most), some (.str k0), some (.ref od7), some (.ref tk), some (.int j), some (.ref ln), some (.ref q), o12]) ∧ Same H HI ∧ SqT K HI q (dr.map V.str) ∧ HI st = some (DI N.names fun k => (N.plc k (p0 k) (u' k) : Int)) ∧ HI tk = some (DI N.names fun k => (u' k : Int)) ∧ HI wk = some (DI N.names fun x => wf x + ((dr.take i).count x : Int)) ∧ HI od7 = some (DI ["o", "p"] fun x => (N.got p0 u x : Int) + ((dr.take i).count x : Int))) ?_ ?_ ?_ ?_
    · rintro i σ HI ⟨_, _, h, _⟩
      exact h
    · refine ⟨⟨_, rfl⟩, s0H, hHq, hHs, hHt, ?_, ?_⟩
      · rw [hHw]; exact congrArg some (DI_congr fun x _ => by simp)
      · rw [hHo]; exact congrArg some (DI_congr fun x _ => by simp)
    · rintro i y σ HI hy ⟨⟨o12, rfl⟩, sI, hIq, hIs, hIt, hIw, hIo⟩
      have hyk := hdo.2 y (List.mem_of_getElem? hy)
      have hcnt : ∀ x, ((dr.take (i + 1)).count x : Int) = ((dr.take i).count x : Int) + if x = y then 1 else 0 := fun x => by
        rw [take_snoc hy, List.count_append]
        by_cases e : x = y
        · subst e; simp
        · simp [e, Ne.symm e, List.count_singleton]
      walk_at "w"
      refine ssx_cons (ps_if (pt_cmp (pc_din hu (pv 12) (pv 7))) SSX.ps SSX.ps) ?_
      walk_at "w"
      refine w_inK hIo ?_
      walk_at "w"
      refine w_dcases (fun hyo => ?_) fun hyo => ?_
      · refine ssx_cons (ps_dput hu (pv 7) (pv 12) (pe_op op_add (pe_dget hu (pv 7) (pv 12) (fun _ _ => rfl)) pe_int) rfl) ?_
        walk_at "w"
        refine w_getI hIo hyo ?_
        walk_at "w"
        refine w_putI hIo (by simp) ?_
        have hyn : y ∉ N.names := by
          rcases op_mem.mp hyo with rfl | rfl
          · exact hok.no_o
          · exact hok.no_p
        refine ssx_nil (ssx_nil ⟨⟨_, rfl⟩, Same.mut sI hodd, sqT_upd hIq hIo, by rw [upd_ne hws7.1]; exact hIs, by rw [upd_ne hnt.2.2.symm]; exact hIt, ?_, ?_⟩)
        · rw [upd_ne hws7.2, hIw]
          refine congrArg some (DI_congr fun x hx => ?_)
          have hxy : x ≠ y := fun z => hyn (z ▸ hx)
          rw [hcnt, if_neg hxy]; omega
        · rw [upd_same, ins_same hyo]
          refine congrArg some (DI_congr fun x _ => ?_)
          rw [hcnt]
          by_cases e : x = y
          · subst e; rw [show up _ x _ x = _ from NetD.up_same, if_pos rfl]; omega
          · rw [show up _ y _ x = _ from NetD.up_ne e, if_neg e]; omega
      · have hyn : y ∈ N.names := hyk.resolve_right fun z => hyo (op_mem.mpr z)
        refine ssx_cons (ps_dput hu (pv 4) (pv 12) (pe_op op_add (pe_dget hu (pv 4) (pv 12) (fun _ _ => rfl)) pe_int) rfl) ?_
        walk_at "w"
        refine w_getI hIw hyn ?_
        walk_at "w"
        refine w_putI hIw (by omega) ?_
        refine ssx_nil (ssx_nil ⟨⟨_, rfl⟩, Same.mut sI hwk0, sqT_upd hIq hIw, by rw [upd_ne hsw]; exact hIs, by rw [upd_ne hnt.2.1.symm]; exact hIt, ?_, ?_⟩)
        · rw [upd_same, ins_same hyn]
          refine congrArg some (DI_congr fun x _ => ?_)
          rw [hcnt]
          by_cases e : x = y
          · subst e; rw [show up _ x _ x = _ from NetD.up_same, if_pos rfl]; omega
          · rw [show up _ y _ x = _ from NetD.up_ne e, if_neg e]; omega
        · rw [upd_ne hws7.2.symm, hIo]
          refine congrArg some (DI_congr fun x hx => ?_)
          have hxy : x ≠ y := fun z => hyo (z ▸ hx)
          rw [hcnt, if_neg hxy]; omega
    · rintro σ HI ⟨⟨o12, rfl⟩, sI, hIq, hIs, hIt, hIw, hIo⟩
      rw [List.take_length] at hIw hIo
      refine ssx_nil ⟨⟨_, _, _, _, _, rfl⟩, sI, u', hIs, ?_, ?_, hIt, hR', htu'⟩
      · rw [hIw]
        refine congrArg some (DI_congr fun x _ => ?_)
        rw [hu', N.wt_step hok.nodup hk0n.1, hfl, hwf]
        by_cases e : x = k0
        · subst e; rw [show up _ x _ x = _ from NetD.up_same, if_pos rfl]; omega
        · rw [show up _ k0 _ x = _ from NetD.up_ne e, if_neg e]; omega
      · rw [hIo]
        refine congrArg some (DI_congr fun x _ => ?_)
        rw [hu', N.got_step hok.nodup hk0n.1, hfl]; omega
  · rintro σ H7 ⟨⟨o6, o9, o10, o11, o12, rfl⟩, s7, u, h7s, h7w, h7o, h7t, hR, htu⟩
    refine ssx_cons (ps_ret (pe_tup (pa_cons (pv 8) (pa_cons (pv 7) (pa_cons (pv 3) (pa_cons pe_bl pa_nil)))))) ?_
    walk_at "w"
    refine w_newT (by simp) fun t HE ht sE hE => ?_
    exact kF t _ _ _ HE (s7.trans sE) hE
end
end K1
namespace K1
open PySem PySem.Spec L2
open PyProof.Rows hiding St
local macro_rules | `(tactic| walk_at "hp") => `(tactic| first | assumption | exact upd_same | (refine' Same.to ?wse ?wsh; (case wse => assumption); (case wsh => walk_at "hp")) | ((rw [upd_ne (by first | assumption | (apply Ne.symm; assumption))]); walk_at "hp"))
local macro_rules | `(tactic| walk_at "sq") => `(tactic| first | assumption | exact sqL (by walk_at "hp") | exact sqT (by walk_at "hp") | (refine' Same.seqTo ?wse ?wsh; (case wse => assumption); (case wsh => walk_at "sq")) | (refine' Same.sqtTo ?wse ?wsh; (case wse => assumption); (case wsh => walk_at "sq")))
local macro_rules | `(tactic| walk_at "w1") => `(tactic| first
  | with_reducible refine w_asg ?_
  | with_reducible refine w_c ?_
  | with_reducible refine w_gname ?_
  | with_reducible refine w_if ?_
  | with_reducible refine w_ifs ?_
  | with_reducible refine w_test ?_
  | with_reducible refine w_tB ?_
  | with_reducible refine w_bl ?_
  | with_reducible refine w_op ?_
  | with_reducible refine w_nil ?_
  | with_reducible refine w_cons ?_
  | with_reducible refine w_cb ?_
  | with_reducible refine w_I0 ?_
  | with_reducible refine w_lst ?_
  | with_reducible refine w_tup ?_
  | with_reducible refine w_sl ?_
  | with_reducible refine w_noPart ?_
  | with_reducible refine w_part ?_
  | with_reducible refine w_int ?_
  | with_reducible refine w_par ?_
  | with_reducible refine w_two ?_
  | with_reducible refine w_par3 ?_
  | with_reducible refine w_three ?_
  | with_reducible refine w_ret ?_
  | with_reducible refine w_drop ?_
  | with_reducible refine w_chain ?_
  | with_reducible refine w_and ?_
  | with_reducible refine w_or ?_
  | with_reducible refine w_not ?_
  | with_reducible refine w_notV ?_
  | with_reducible refine w_andV ?_
  | with_reducible refine w_orV ?_
  | with_reducible refine w_int1 ?_
  | with_reducible refine w_true ?_
  | with_reducible refine w_false ?_
  | with_reducible refine w_for ?_
  | with_reducible refine w_rng1 ?_
  | with_reducible refine w_rng2 ?_
  | with_reducible refine w_iList ?_
  | with_reducible refine w_iTup ?_
  | with_reducible refine w_dget ?_
  | with_reducible refine w_din ?_
  | with_reducible refine w_dnotin ?_
  | with_reducible refine w_dput ?_
  | with_reducible refine w_dget2 ?_
  | with_reducible refine w_fld ?_
  | with_reducible refine w_dnew ?_
  | with_reducible refine w_lc ?_
  | with_reducible refine w_dc ?_
  | with_reducible refine w_iStr ?_
  | with_reducible refine w_str ?_
  | with_reducible refine w_iEnum ?_
  | with_reducible refine w_iZip ?_
  | with_reducible refine w_yes ?_
  | with_reducible refine w_gtup ?_
  | with_reducible refine w_gcons ?_
  | with_reducible refine w_rcons ?_
  | with_reducible refine w_gnil ?_
  | with_reducible refine w_leS ?_
  | with_reducible refine w_isN ?_
  | with_reducible refine w_notN ?_
  | with_reducible refine w_call ?_
  | with_reducible refine w_meth ?_
  | with_reducible refine w_bm ?_
  | with_reducible refine w_bm0 ?_
  | with_reducible refine isi_int ?_
  | with_reducible refine isi_bl_int ?_
  | with_reducible refine isi_int_bl ?_
  | with_reducible refine isi_bl ?_
  | with_reducible refine isi_str ?_
  | with_reducible refine isi_non_dict ?_
  | with_reducible refine isi_int_dict ?_
  | with_reducible refine w_ntrue ?_
  | with_reducible refine w_nfalse ?_
  | with_reducible refine w_wt ?_
  | with_reducible refine w_starD ?_
  | with_reducible refine w_starT ?_
  | with_reducible refine w_listVals ?_
  | with_reducible refine w_iEnumT ?_
  | with_reducible refine w_iEnumS ?_
  | with_reducible refine w_enumS ?_
  | with_reducible refine w_frz ?_
  | with_reducible refine w_iItems ?_
  | with_reducible refine w_iKeys ?_
  | with_reducible refine w_iVals ?_
  | with_reducible refine w_strS ?_
  | with_reducible refine w_daug ?_
  | with_reducible refine w_rAdd ?_
  | with_reducible refine w_sfld ?_
  | ((with_reducible refine' w_var ?wsd ?_); (case wsd => first | rfl | assumption))
  | ((with_reducible refine' w_eq ?wsd ?_); (case wsd => rfl))
  | ((with_reducible refine' w_ne ?wsd ?_); (case wsd => rfl))
  | ((with_reducible refine' w_lenL ?wsd ?_); (case wsd => walk_at "sq"))
  | ((with_reducible refine' w_lenT ?wsd ?_); (case wsd => walk_at "sq"))
  | ((with_reducible refine' w_itL ?wsd ?_); (case wsd => walk_at "sq"))
  | ((with_reducible refine' w_itT ?wsd ?_); (case wsd => walk_at "sq"))
  | ((with_reducible refine' w_rng1v ?wsd ?_); (case wsd => omega))
  | ((with_reducible refine' w_rng2v ?wsd ?_); (case wsd => omega))
  | ((with_reducible refine' w_I ?wsd ?_); (case wsd => walk_at "side"))
  | ((with_reducible refine' w_dtrue ?wsd ?_); (case wsd => first | assumption | omega | rfl | decide))
  | ((with_reducible refine' w_dfalse ?wsd ?_); (case wsd => first | assumption | omega | decide))
  | ((with_reducible refine' w_ndtrue ?wsd ?_); (case wsd => first | assumption | omega | rfl | decide))
  | ((with_reducible refine' w_ndfalse ?wsd ?_); (case wsd => first | assumption | omega | decide))
  | ((with_reducible refine' w_stD ?wsd ?_); (case wsd => walk_at "hp"))
  | ((with_reducible refine' w_stT ?wsd ?_); (case wsd => walk_at "sq"))
  | ((with_reducible refine' w_stL ?wsd ?_); (case wsd => walk_at "sq"))
  | ((with_reducible refine' w_isD ?wsd ?_); (case wsd => walk_at "hp"))
  | ((with_reducible refine' isi_tup ?wsd ?_); (case wsd => walk_at "sq"))
  | ((with_reducible refine' isi_dict ?wsd ?_); (case wsd => walk_at "hp"))
  | ((with_reducible refine' w_lenDv ?wsd ?_); (case wsd => walk_at "hp"))
  | ((with_reducible refine' w_enum ?wsd ?_); (case wsd => walk_at "sq"))
  | ((with_reducible refine' w_enumT ?wsd ?_); (case wsd => walk_at "sq"))
  | ((with_reducible refine' w_tyL ?wsd ?_); (case wsd => walk_at "sq")))
local macro_rules | `(tactic| walk_at "side") => `(tactic| first | omega | decide | (constructor <;> omega) | (constructor <;> decide) | (simp only [List.length_map, List.length_append, List.length_cons, List.length_nil, CDivN, CMul, CPow]; first | omega | decide | (constructor <;> omega)))
local macro_rules | `(tactic| walk_at "w") => `(tactic| repeat (walk_at "w1"))
def GSX (X : Cx) (sts : List Stmt) : TGn := fun D ys σ H => ∃ t, GSs X sts t ∧ t D ys σ H
def RGW (tb : TGn) (D : GEnds) (W : Nat → List V → L2.St → Hp → Prop) (m : Nat) (ys : List V) (σ : L2.St) (H1 : Hp) : Prop := ∃ N : List V → L2.St → Hp → Prop, (∀ ys' σ' H', N ys' σ' H' → ∃ m', m' < m ∧ W m' ys' σ' H') ∧ tb { D with nx := N, ct := N, bk := D.nx } ys σ H1
section
variable {X : Cx} {sts rest : List Stmt} {st : Stmt} {D : GEnds} {ys : List V} {σ : L2.St} {H : Hp}
theorem GSX.gs : GSs X sts (GSX X sts) := ⟨fun A S ip R n ys s₀ c fs K J gd lv s σ H D g hn k hI h => h.elim fun _ q => q.1.run A S ip R n ys s₀ c fs K J gd lv s σ H D g hn k hI q.2⟩
theorem gsx_nil (h : D.nx ys σ H) : GSX X [] D ys σ H := ⟨_, gss_nil, h⟩
theorem gsx_cons {t : TGn} (h : GS X st t) (q : t { D with nx := fun ys' σ' H' => GSX X rest D ys' σ' H' } ys σ H) : GSX X (st :: rest) D ys σ H := ⟨_, gss_cons h GSX.gs, q⟩
theorem gsx_ps {t : TS} (h : PS X st t) (q : t { nx := fun σ' H' => GSX X rest D ys σ' H', rt := D.rt ys, bk := D.bk ys, ct := D.ct ys } σ H) : GSX X (st :: rest) D ys σ H := gsx_cons (gs_ps h) q
theorem w_gwhile {c : TT} {tb : TGn} (W : Nat → List V → L2.St → Hp → Prop) (m0 : Nat) (h0 : W m0 ys σ H) (hs : ∀ m ys σ H, W m ys σ H → c σ H fun b H1 => RIte b (RGW tb D W m ys σ H1) (D.nx ys σ H1)) : tGWhile c tb D ys σ H := ⟨W, ⟨m0, h0⟩, hs⟩
theorem w_gwt {tb : TGn} {W : Nat → List V → L2.St → Hp → Prop} {m : Nat} (h : tb { D with nx := fun ys' σ' H' => ∃ m', m' < m ∧ W m' ys' σ' H', ct := fun ys' σ' H' => ∃ m', m' < m ∧ W m' ys' σ' H', bk := D.nx } ys σ H) : RGW tb D W m ys σ H := ⟨_, fun _ _ _ z => z, h⟩
end
structure GFok (P : Program) (w : World) (K : PySem.W.Frag) (mg : Str → Option Value) (base : Heap) (k : Nat) (f : Addr) (ps : List Str) (dvs : List V) (sp : SpG) : Prop where
  ex : ∃ fd ds, GFn P w K mg base k f fd ps sp ∧ Binds K fd ps ds ∧ Vals dvs ds
  kp : PySem.W.keepIn K (.ref f) = true
theorem pgen_callF {X : Cx} {k : Nat} {f : Addr} {ps : List Str} {dvs : List V} {sp : SpG} {E : XK} {x : Str} {e : Expr} {es : List Expr} {t : TA} {p pos : Pos} (F : GFok X.prog X.w X.K X.mg X.base k f ps dvs sp) (hr : Room k X.A) (hg : Gl X x) (hm : X.mg x = some (.ref f)) (ha : PA X (e :: es) t)
    (hdb : (x == ("__debug__" : Str)) = false := by decide) (he : starEach (e :: es) X.env = (false, eval e X.env) :: starEach es X.env := by rfl) (hpl : (backTo pos (starEach es X.env)).any (·.1) = false := by rfl) : PGen X k (.Call (.Name x p) (e :: es) [] pos) (tCallG sp dvs E t) E :=
  F.ex.elim fun _ h => h.elim fun _ h => pgen_call h.1 hr hg hm F.kp h.2.1 h.2.2 ha hdb he hpl
structure TurnsOk (N : NetD) (w0 us : Str → Nat) (zs : List Str) : Prop where
  count : ∀ k ∈ N.names, zs.count k = us k
  names : ∀ z ∈ zs, z ∈ N.names
  few : zs.length ≤ 5000
  first : ∀ z r, zs = z :: r → ∃ l1 l2, N.names = l1 ++ z :: l2 ∧ (∀ y ∈ l1, w0 y = 0) ∧ 0 < w0 z
def spTurns (K : PySem.W.Frag) : SpG := fun vs H cont _ => ∃ (p a : Addr) (y : V) (N : NetD) (ks : List Str) (bl p0 us : Str → Nat), vs = [.ref p, .ref a, y] ∧ NetAt K H p N ∧ N.Ok ∧ N.Ends ∧ BlAt H a N ks bl ∧ StIs H y N p0 ∧ Full N (bsum N bl ks) p0 us ∧
  ∀ (zs : List Str) H', Same H H' → TurnsOk N (bsum N bl ks) us zs → cont (zs.map V.str) H'
abbrev N_turns : List Str := ["net", "balls", "standing", "board", "name"]
theorem sc_turns : GScope N_turns ["net", "balls", "standing"] (defScope s_knots_in_turn) := ⟨rfl, rfl, rfl, by decide +kernel, rfl, by decide +kernel, by decide +kernel⟩
abbrev cnt (zs : List Str) : Str → Nat := fun k => zs.count k
theorem cnt_snoc (zs : List Str) (z : Str) : cnt (zs ++ [z]) = up (cnt zs) z (cnt zs z + 1) := funext fun x => by
  by_cases e : x = z
  · subst e
    rw [show up (cnt zs) x (cnt zs x + 1) x = _ from NetD.up_same]
    show (zs ++ [x]).count x = zs.count x + 1
    simp
  · rw [show up (cnt zs) z (cnt zs z + 1) x = _ from NetD.up_ne e]
    show (zs ++ [z]).count x = zs.count x
    simp [List.count_append, List.count_singleton, Ne.symm e]
section
variable {P : Program} {w : World} {K : PySem.W.Frag} {mg : Str → Option Value} {base : Heap}
theorem ok_turns (T : TX K mg) : GFok P w K mg base 4 (He.ga K "knots_in_turn") ["net", "balls", "standing"] [] (spTurns K) := by
  obtain ⟨fd, F⟩ := T.fn_knots_in_turn
  obtain ⟨ds, h1, h2⟩ := F.binds1 (ps := ["net", "balls", "standing"]) 3 1 (by simp) rfl fun _ _ _ _ _ _ _ us its h1 h2 => match us, its, h1, h2 with | [_, _, _], [_], _, _ => ⟨_, rfl, by kernel_rfl⟩
  refine ⟨⟨fd, ds, ?_, h2, h1⟩, F.kp⟩
  obtain ⟨oc, od, dV, kV, doc, pm, an, cdv, ct, osl, rfl, lk, hcd, _, _⟩ := F.ex
  refine gfn_of lk hcd sc_turns (fun vs H Q E h => ?_) (fun A outer s H vs Q E pn hr h => ?_)
  · obtain ⟨_, _, _, _, _, _, _, _, rfl, _⟩ := h
    rfl
  obtain ⟨p, a, y, N, ks, bl, p0, us, rfl, hA, hok, hen, hbl, hst, hfull, k⟩ := h
  have O_check_net := @ok_check_net P w K mg base T
  have O_ends := @ok_ends P w K mg base T
  have O_begun := @ok_begun P w K mg base T
  have O_Board_first_waiting := @ok_Board_first_waiting P w K mg base T
  have O_Board_take := @ok_Board_take P w K mg base T
  have hp0 : Passes (L2.CX P w) (gcxOf P w K mg base N_turns "knots_in_turn" (defScope s_knots_in_turn) (He.ga K "knots_in_turn") cdv A outer s H E pn) (fun _ _ _ => False) := passN
  show GSX _ _ _ _ _ _
  refine gsx_ps (ps_expr (pe_callF O_check_net (hr.mono (by decide)) rfl T.g_check_net pass0 (pa_cons (pv 0) pa_nil))) ?_
  walk_at "w"
  refine ⟨p, N, rfl, hA, ?_⟩
  refine gsx_ps (ps_if (pt_not (pt_val (pe_callF O_ends (hr.mono (by decide)) rfl T.g_ends pass0 (pa_cons (pv 0) pa_nil)))) SSX.ps SSX.ps) ?_
  walk_at "w"
  refine ⟨p, N, rfl, hA, hok, fun _ H1 s1 => ?_, fun z => absurd hen z⟩
  walk_at "w"
  refine ssx_nil ?_
  refine gsx_ps (ps_set (i := 3) sc_turns.nd rfl (Or.inl rfl) (pe_callF O_begun (hr.mono (by decide)) rfl T.g_begun hp0 (pa_cons (pv 0) (pa_cons (pv 1) (pa_cons (pv 2) pa_nil))))) ?_
  walk_at "w"
  refine ⟨p, N, _, y, rfl, hA.same s1, hok, .inr ⟨a, ks, bl, rfl, hbl.same s1, .inr ⟨p0, hst.same s1, fun b st wk od td dx Hn H2 s2 hb0 B => ?_⟩⟩⟩
  walk_at "w"
  have sHn := s1.trans s2
  have htot : ∀ {zs : List Str}, N.Reach (bsum N bl ks) p0 (cnt zs) → tot N (cnt zs) ≤ 5000 := fun {zs} h => by
    have a1 := tot_le (N.reach_le hfull.rest (fun _ _ => Nat.le_refl _) h)
    have a3 := hfull.few
    omega
  refine gsx_ps (ps_set (i := 4) sc_turns.nd rfl (Or.inl rfl) (pe_meth0F (pv 3) T.c_Board T.m_Board_first_waiting O_Board_first_waiting (hr.mono (by decide)) pass0)) ?_
  walk_at "w"
  refine w_bmeth (B.sm _ _ B.ob) ?_
  walk_at "w"
  refine fw_use B hok fun nm hnm => ?_
  walk_at "w"
  refine gsx_cons (gs_while owns_gcx (pt_cmpR k_notN (pv 4) pe_non (nomark _)) GSX.gs) ?_
  refine w_gwhile (fun m ys σ H4 => ∃ (zs : List Str) (nm : V), ys = zs.map V.str ∧ σ = [some (.ref p), some (.ref a), some y, some (.ref b), some nm] ∧ BoardO K Hn H4 b N p st wk od td dx (bsum N bl ks) p0 (cnt zs) ∧ N.Reach (bsum N bl ks) p0 (cnt zs) ∧ (∀ z ∈ zs, z ∈ N.names) ∧
    (∀ z r, zs = z :: r → ∃ l1 l2, N.names = l1 ++ z :: l2 ∧ (∀ y ∈ l1, bsum N bl ks y = 0) ∧ 0 < bsum N bl ks z) ∧ zs.length = tot N (cnt zs) ∧ FwOk N (bsum N bl ks) p0 (cnt zs) nm ∧ m = 5000 - tot N (cnt zs)) (5000 - tot N (cnt [])) ⟨[], nm, rfl, rfl, B, .zero, by simp, by simp, ?_, hnm, rfl⟩ ?_
  · have : ∀ l : List Str, NetD.sm (cnt []) l = 0 := fun l => by
      induction l with
      | nil => rfl
      | cons b l ih => show 0 + _ = 0; rw [ih]
    exact (this _).symm
  rintro m ys σ H4 ⟨zs, nm, rfl, rfl, B4, hR, hzn, hfst, hlen, hfw, rfl⟩
  walk_at "w"
  rcases hfw with ⟨rfl, hrest⟩ | ⟨k0, l1, l2, rfl, hsp, hl1, hpos⟩
  · refine w_ndtrue rfl ?_
    have heq := N.reach_eq hfull.rest hrest hfull.rs hR
    exact gsx_nil (k zs H4 (sHn.trans B4.sm) ⟨heq, hzn, by have := htot hR; omega, hfst⟩)
  · refine w_ndfalse (by intro z; cases z) ?_
    refine w_gwt ?_
    have hk0 : k0 ∈ N.names := by rw [hsp]; simp
    refine gsx_ps (ps_expr (pe_methF (pv 3) T.c_Board T.m_Board_take O_Board_take (hr.mono (by decide)) pass0 (pa_cons (pv 4) (pa_cons pe_int pa_nil)))) ?_
    walk_at "w"
    refine w_bmeth (B4.sm _ _ B4.ob) ?_
    walk_at "w"
    refine take_use (m := 1) B4 hok hk0 fun H5 B5 _ => ?_
    rw [← cnt_snoc] at B5
    have hR5 : N.Reach (bsum N bl ks) p0 (cnt (zs ++ [k0])) := by rw [cnt_snoc]; exact .step hR hk0 (by omega)
    have ht5 : tot N (cnt (zs ++ [k0])) = tot N (cnt zs) + 1 := by rw [cnt_snoc]; exact tot_up hok hk0
    have hm5 := htot hR5
    refine gsx_cons (gs_yield (pv 4)) ?_
    refine ⟨by rw [List.length_map]; exact szlt (by omega), ?_⟩
    walk_at "w"
    refine gsx_ps (ps_set (i := 4) sc_turns.nd rfl (Or.inl rfl) (pe_meth0F (pv 3) T.c_Board T.m_Board_first_waiting O_Board_first_waiting (hr.mono (by decide)) pass0)) ?_
    walk_at "w"
    refine w_bmeth (B5.sm _ _ B5.ob) ?_
    walk_at "w"
    refine fw_use B5 hok fun nm2 hnm2 => ?_
    walk_at "w"
    refine gsx_nil ⟨_, by omega, zs ++ [k0], nm2, by simp, rfl, B5, hR5, fun z hz => ?_, fun z r e => ?_, by rw [List.length_append, ht5]; simp; omega, hnm2, rfl⟩
    · rcases List.mem_append.mp hz with hz | hz
      · exact hzn z hz
      · rw [List.mem_singleton.mp hz]; exact hk0
    · cases zs with
      | nil =>
        simp at e
        obtain ⟨rfl, _⟩ := e
        have w0e : ∀ x, N.wt (bsum N bl ks) p0 (cnt []) x = (bsum N bl ks x : Int) := fun x => wt_zero
        refine ⟨l1, l2, hsp, fun q hq => ?_, ?_⟩
        · have := hl1 q hq
          rw [w0e] at this
          omega
        · rw [w0e] at hpos
          omega
      | cons z' r' =>
        simp at e
        obtain ⟨rfl, _⟩ := e
        exact hfst _ _ rfl
end
end K1
namespace K1
open PySem PySem.Spec L2
open PyProof.Rows hiding St
section
open PySem.W
variable {prog : Program} {w : World} {A : Around} {E : Value → Shared → Prop} {h : Heap} {g : Array GenState} {d : Drawn} {t : Nat} {os : OsState}
variable {nm q : Str} {C N : Addr} {bs bm : List Value} {hdct : Bool} {sn : List Str} {sub : List Value} {ab : Bool} {col : Option Bool} {dd : Option Addr} {k0 k1 k2 k3 k5 : Option Value}
theorem call_mwV {u x t0 : Addr} {ar : List Value} {Q : Value → Shared → Prop}
    (cC : h.get? C = some (excClassObj nm q C N bs bm hdct sn sub ab col dd k0 k1 k2 k3 k5 "ValueError.__new__")) (cx : h.get? x = some (HandSPX.excO C t0)) (cu : h.get? u = some (kxs_mw "ValueError.__init__" x)) (cl : ar.length ≤ sizeLine)
    (cq : ∀ h2 t1, (∀ b o, b ≠ x → h.get? b = some o → h2.get? b = some o) → h2.get? x = some (HandSPX.excO C t1) → Q .none ⟨h2, g, d, t, os⟩) :
    wpAny (model prog w) A (call (.ref u) ar) Q E ⟨h, g, d, t, os⟩ := by
  refine wpAny_call (codeAny_of_tree ?_)
  show wpAny _ A.in1 (callAny (.ref u) ⟨ar, []⟩) _ _ _
  simp only [callAny]
  refine wpAny_bind (wpAny_load cu ?_)
  simp only [kxs_mw, show (Value.type "method-wrapper" == Value.type "method" || Value.type "method-wrapper" == Value.type "builtin_function_or_method" || Value.type "method-wrapper" == Value.type "method-wrapper") = true by decide, if_true]
  refine W.KFB.if_so (by decide) ?_
  refine wpAny_bind (check_bound_init F.excBase_ValueError.toExcCallFacts cC cx rfl ?_)
  refine wpAny_bind (wpAny_pure (wpAny_pure ?_))
  refine ⟨Code.quiet_builtin _ (by decide +kernel), codeAny_builtin F.excBase_ValueError.initEntry ?_⟩
  rw [Around.under_plainId F.excBase_ValueError.init.plain _]
  wp_walk
  refine cq _ h.objs.size (fun b o hb ho => ?_) ?_
  · rw [Heap.get?_update_other _ _ (Ne.symm hb)]
    exact Heap.get?_push_of_some _ ho
  · rw [Heap.get?_update_self _ (Heap.get?_push_of_some _ cx) rfl]
    rfl
end
def spBO (K : PySem.W.Frag) : Sp := fun vs H Q _ => ∃ (a : Addr) (v : V), vs = [.ref a, v] ∧ H a = some (exo a (bC K) none) ∧ ∀ dx, H dx = none → dx ≠ a → Q .non (upd (upd H dx (exd dx [("place", v)])) a (exo a (bC K) (some dx)))
section
variable {P : Program} {w : World} {K : PySem.W.Frag} {mg : Str → Option Value} {base : Heap}
theorem scN_BO : NdefX.NScope ["self", "place", "__class__"] ["self", "place"] ["__class__"] (defScope s_BO) := NdefX.nscope_by (by decide +kernel)
theorem ok_BO (B : BoOk P K) : ∃ fd, FnOk P w K mg base CX0 0 (bF K) fd ["self", "place"] (spBO K) ∧ Binds K fd ["self", "place"] [] := by
  obtain ⟨oc, od, sl, doc, pm, ct, cda, cc, lk, hcd, ⟨occ, odc, vsc, oslc, tf, lkc, hvs⟩, ⟨ocl, odl, osll, lcl⟩⟩ := B.fn
  have T := B.oex
  obtain ⟨nm, q, N, bs, bm, sn, sub, ab, col, dd, k0, k1, k2, k3, k5, hC, hbm⟩ := T.cls
  obtain ⟨F, hF⟩ : ∃ F : NdefX.NF, F = ⟨"__init__", "BadOrder.__init__", defArgs s_BO, defBody s_BO, defScope s_BO, [("__class__", cc)], cda⟩ := ⟨_, rfl⟩
  refine ⟨PySem.W.fnX "__init__" "BadOrder.__init__" (defArgs s_BO) (defBody s_BO) (defScope s_BO) [("__class__", cc)] .none .none doc pm none (.ref cda) ct, ⟨fun vs H Q E h => ?_, fun A outer s H args us vs Q E hr e0 hb r hsp => ?_⟩, Binds.all fun us hl => match us, hl with | [_, _], _ => rfl⟩
  · obtain ⟨_, _, rfl, _⟩ := h
    rfl
  obtain ⟨a, v, rfl, ea, k⟩ := hsp
  obtain ⟨u, rv, rfl⟩ : ∃ u, RelV v u ∧ us = [.ref a, u] := by
    cases r with
    | cons r0 r' =>
      cases r' with
      | cons rv rn =>
        cases rn
        cases r0
        exact ⟨_, rv, rfl⟩
  obtain ⟨hp, g, d, tk, os⟩ := s
  have KX : K.In hp := e0.mod.kin.keeps fun b o e => (e0.bs b o e).1
  have lim : hp.NoLimit := e0.mod.nolimit.keeps fun b o e => (e0.bs b o e).1
  have hg := e0.mod.glob.keeps fun b o e => (e0.bs b o e).1
  obtain ⟨mb, hb1, hb2⟩ := e0.mod.blt
  have hb1 := hb1.keeps fun b o e => (e0.bs b o e).1
  have hms : mg "super" = none := PySem.W.mg_none_of e0.mod.kin e0.mod.glob (He.eqO_ok (B.at 9 rfl))
  obtain ⟨t1, hxa⟩ := exo_at e0.hok ea
  have hcl : PySem.W.clsIn K (bC K) = some { name := nm, bases := bs, mro := .ref (bC K) :: bm, ns := N, qualname := q, hasDict := true, slotNames := sn, subclasses := sub, abstract := ab, collection := col, hasDel := false } := by unfold PySem.W.clsIn; rw [hC] <;> rfl
  have hCl : NdefX.CellsAt F.cl ["__class__"] [none] hp H := by
    subst hF
    have key : ∀ {y : Str} {c : Addr}, ([("__class__", cc)] : List (Str × Addr)).lookup y = some c → y = "__class__" ∧ c = cc := by
      intro y c h
      by_cases e : y = "__class__"
      · subst e
        simp at h
        exact ⟨rfl, h.symm⟩
      · have e' : (y == ("__class__" : Str)) = false := by simpa using e
        rw [List.lookup_cons, e'] at h
        cases h
    refine ⟨rfl, fun y c h => ?_, fun x y c h1 h2 => ?_, fun i y h => ?_⟩
    · obtain ⟨rfl, rfl⟩ := key h
      have h0 := e0.bs _ _ (e0.mod.kin _ _ lcl)
      exact ⟨h0.2, _, _, h0.1, rfl⟩
    · rw [(key h1).1, (key h2).1]
    · cases i with
      | zero =>
        simp at h
        subst h
        exact ⟨cc, by simp, fun v h => by simp at h⟩
      | succ i => simp at h
  have S : NdefX.NScope ["self", "place", "__class__"] ["self", "place"] ["__class__"] F.scope := by subst hF; exact scN_BO
  refine PySem.ks_codeAny_call_defAt (fd := PySem.W.fnX "__init__" "BadOrder.__init__" (defArgs s_BO) (defBody s_BO) (defScope s_BO) [("__class__", cc)] .none .none doc pm none (.ref cda) ct) (body := defBody s_BO) (binds := ([("self" : Str), "place"] : List Str).zip [.ref a, u])
    hr.depth (KX _ _ lk) rfl lim (PySem.W.codeRec_of KX hcd) rfl hb scN_BO.nocell (fun ⟨n, _⟩ hy => scN_BO.par n (List.of_mem_zip hy).1) (fun h1 hns hk1 => ?_) rfl rfl rfl
  have I0 : Inv (NdefX.ncx CX0 P w K mg base ["self", "place", "__class__"] F (bF K) A outer ⟨hp, g, d, tk, os⟩ H E) [] (NdefX.startF ["self", "place", "__class__"] [.ref a, v] [none]) H ⟨h1, g, d, tk + (([("self" : Str), "place"] : List Str).zip [.ref a, u]).length, os⟩ :=
    NdefX.inv_startN (us := [.ref a, u]) S hr.hd e0 rfl (.cons rfl (.cons rv .nil)) hCl hns hk1
  subst hF
  have hka : (defScope s_BO).names.lookup ("self" : Str) = some .local := scN_BO.par _ (by simp)
  have hks : (defScope s_BO).names.lookup ("super" : Str) = some .globalImplicit := by decide +kernel
  have hkc : (defScope s_BO).names.lookup ("__class__" : Str) = some .free := scN_BO.frk _ (by simp)
  have KX1 : K.In h1 := KX.keeps hk1
  generalize tk + (([("self" : Str), "place"] : List Str).zip [Value.ref a, u]).length = tk1 at *
  refine PySem.ks_wpAt_execs_cons ?_
  refine PySem.ks_wpAt_Expr_any (PySem.ks_wpAt_MethodCall ?_ (by rfl)) (by rfl) (by rfl)
  refine PySem.ks_wpAt_super_base hks hkc (by decide) rfl (hk1 _ _ (KX _ _ lk)) rfl rfl rfl (hk1 _ _ (KX _ _ lkc)) rfl hvs (by simp) (by simpa using B.at 14 rfl) ?_
  refine PySem.W.ks_loadName_global rfl hks (Calls.loadGlobal_builtin (hg.keeps hk1) hms (hb1.keeps hk1) ((hb2 "super" (by decide)).trans (by decide +kernel)) ⟨rfl, ?_⟩)
  refine wpAny_loadName_free rfl hkc rfl ⟨_, hk1 _ _ (KX _ _ lcl), rfl⟩ ?_
  refine wpAny_loadName_local rfl hka hns (v := .ref a) (by rfl) ?_
  refine PySem.ks_wpAny_isType_cls (hk1 _ _ (KX _ _ hC)) rfl ⟨rfl, ?_⟩
  refine PySem.ks_wpAny_call_super (C := bC K) (hk1 _ _ (KX _ _ hC)) rfl (hk1 _ _ hxa) rfl (fun c z => by cases z) (PySem.W.looks_mroIn KX1 (of_decide_eq_true (B.at 8 rfl))) (fun h2 e2 hk2 => ?_)
  have KX2 : K.In h2 := KX1.keeps hk2
  have hxa2 := hk2 _ _ (hk1 _ _ hxa)
  have J2 : PySem.W.InstAt h2 a { cls := .ref (bC K), dict := none, data := .fields #[.ref t1, .none, .none, .none, .bool false, .none] } (bC K) none := ⟨hxa2, rfl, rfl, trivial⟩
  have hm := He.eqO_ok (B.at 11 rfl)
  unfold PySem.W.ks_superIn at hm
  rw [hcl] at hm
  refine PySem.W.kxs_getMethod PySem.W.kxs_ValueError e2 (PySem.W.looks_opaque KX2 (He.eqO_ok (B.at 10 rfl))) (fun A Q E s k q => wpAny_bind ((PySem.W.looks_clsIn KX2 hcl) A _ E s k (wpAny_pure q))) rfl KX2 hm (J2.type.andThen (PySem.W.looks_subIn KX2 (of_decide_eq_true (B.at 12 rfl)))) (PySem.W.ks_ne KX2 J2 hcl) (by decide) ?_
  have hk3 : ∀ b o, h2.get? b = some o → (h2.push (PySem.W.kxs_mw "ValueError.__init__" a)).get? b = some o := fun b o e => Heap.get?_push_of_some _ e
  have hu3 : (h2.push (PySem.W.kxs_mw "ValueError.__init__" a)).get? h2.objs.size = some (PySem.W.kxs_mw "ValueError.__init__" a) := Heap.get?_push_at rfl rfl
  refine PySem.W.kxs_callWith (i := "ValueError.__init__") (u := h2.objs.size) (x := a) (by rfl) (Calls.evalArgs_plain (Calls.spliced_cons ?_))
  show wpAny _ _ (eval (.Constant (.str "not such an order") 0 ⟨0, 0, 0, 0⟩) _) _ _ _
  refine Calls.Constant_str ?_
  refine Calls.spliced_nil ⟨hu3, ?_⟩
  refine call_mwV (KX2 _ _ hC |> hk3 _ _) (hk3 _ _ hxa2) hu3 (by show 1 ≤ sizeLine; decide) fun h4 t4 k4 e4 => ?_
  have I3 := I0.kept (h' := h2.push (PySem.W.kxs_mw "ValueError.__init__" a)) (t' := tk1 + 1 + 1) fun b o e => hk3 b o (hk2 b o e)
  have I4 := I3.write (t' := tk1 + 1 + 1) (x := a) (e := a) (o := exo a (bC K) none) (by rw [ea]; exact True.intro) (.inl rfl) k4 ⟨_, e4⟩ (exo_ok e4)
  have eu : upd H a (exo a (bC K) none) = H := by
    funext b
    by_cases z : b = a
    · rw [z, upd_same, ea]
    · rw [upd_ne z]
  rw [eu] at I4
  refine wpAt_of_wpAny ?_
  refine wpAny_mono ((pss_one (ps_ost (f := "place") (pv 0) (pv 1))).run [] _ _ H { nx := fun _ H' => Q .non H', rt := Q } I4 ⟨v, rfl, .ref a, rfl, a, bC K, rfl, T, He.eqO_ok (B.at 5 rfl), .inl ⟨ea, fun dx n ne => k dx n ne⟩⟩) (fun fl s' hs => ?_) fun e s' hs => hs
  cases fl with
  | ret u' =>
    obtain ⟨v', σ', H', J, rv', q'⟩ := hs
    exact ⟨v', H', J.os, J.bare, J.base, J.hok, rv', q'⟩
  | next =>
    obtain ⟨σ', H', J, q'⟩ := hs
    exact ⟨V.non, H', J.os, J.bare, J.base, J.hok, rfl, q'⟩
  | brk =>
    obtain ⟨_, _, _, z⟩ := hs
    exact False.elim z
  | cont =>
    obtain ⟨_, _, _, z⟩ := hs
    exact False.elim z
theorem bad_rule (T : TX K mg) (B : BoOk P K) : BadRule P K mg := by
  intro X e ta p pos hK hmg hP hr ha hg hst hpl
  subst hK hmg hP
  obtain ⟨fd, F, hb⟩ := ok_BO (P := X.prog) (w := X.w) (mg := X.mg) (base := X.base) B
  have ha2 : PA X [e] (fun σ H Q' => ∃ Q : List V → Hp → Prop, ta σ H Q ∧ ∀ vs H1, Q vs H1 → Q' vs H1) := ⟨fun pos pins s σ H Q I h => by
    obtain ⟨Q0, h0, hm⟩ := h
    exact thn (ha.run pos pins s σ H Q0 I h0) fun us s1 ⟨vs, H1, I1, r, q⟩ => ⟨vs, H1, I1, r, hm _ _ q⟩⟩
  have h := pmk_oex (CX := CX0) (x := "BadOrder") (p := p) (pos := pos) B.oex (He.eqO_ok (B.at 6 rfl)) (of_decide_eq_true (B.at 7 rfl)) F hr hb .nil pass0 hg T.g_BadOrder ha2 (by decide) hst hpl
  intro pins s σ H Q I q
  refine h pins s σ H Q I ⟨_, q, fun vs H1 z => ?_⟩
  obtain ⟨v, rfl, kk⟩ := z
  refine ⟨by simp, fun a h0 => ⟨a, v, rfl, upd_same, fun dx hdx hne => ?_⟩⟩
  rw [upd_ne hne] at hdx
  refine ⟨rfl, dx, [("place", v)], upd_same, by rw [upd_ne hne, upd_same], hdx, ?_⟩
  have e2 : upd (del (upd (upd (upd H1 a (exo a (bC X.K) none)) dx (exd dx [("place", v)])) a (exo a (bC X.K) (some dx))) a) dx (.xd [("place", v)]) = upd H1 dx (.xd [("place", v)]) := by
    funext b
    by_cases z : b = dx
    · rw [z, upd_same, upd_same]
    · rw [upd_ne z, upd_ne z]
      by_cases z2 : b = a
      · rw [z2, del_same, h0]
      · rw [del_ne z2, upd_ne z2, upd_ne z, upd_ne z2]
  rw [e2]
  exact kk dx hdx
end
end K1
namespace K1
open PySem PySem.Spec L2
open PyProof.Rows hiding St
local macro_rules | `(tactic| walk_at "hp") => `(tactic| first | assumption | exact upd_same)
local macro_rules | `(tactic| walk_at "sq") => `(tactic| first | assumption | exact sqL (by assumption) | exact sqT (by assumption))
local macro_rules | `(tactic| walk_at "w1") => `(tactic| first
  | with_reducible refine w_asg ?_
  | with_reducible refine w_c ?_
  | with_reducible refine w_gname ?_
  | with_reducible refine w_if ?_
  | with_reducible refine w_ifs ?_
  | with_reducible refine w_test ?_
  | with_reducible refine w_tB ?_
  | with_reducible refine w_bl ?_
  | with_reducible refine w_op ?_
  | with_reducible refine w_nil ?_
  | with_reducible refine w_cons ?_
  | with_reducible refine w_cb ?_
  | with_reducible refine w_I0 ?_
  | with_reducible refine w_lst ?_
  | with_reducible refine w_tup ?_
  | with_reducible refine w_sl ?_
  | with_reducible refine w_noPart ?_
  | with_reducible refine w_part ?_
  | with_reducible refine w_int ?_
  | with_reducible refine w_par ?_
  | with_reducible refine w_two ?_
  | with_reducible refine w_par3 ?_
  | with_reducible refine w_three ?_
  | with_reducible refine w_ret ?_
  | with_reducible refine w_drop ?_
  | with_reducible refine w_chain ?_
  | with_reducible refine w_and ?_
  | with_reducible refine w_or ?_
  | with_reducible refine w_not ?_
  | with_reducible refine w_notV ?_
  | with_reducible refine w_andV ?_
  | with_reducible refine w_orV ?_
  | with_reducible refine w_int1 ?_
  | with_reducible refine w_true ?_
  | with_reducible refine w_false ?_
  | with_reducible refine w_for ?_
  | with_reducible refine w_rng1 ?_
  | with_reducible refine w_rng2 ?_
  | with_reducible refine w_iList ?_
  | with_reducible refine w_iTup ?_
  | with_reducible refine w_dget ?_
  | with_reducible refine w_din ?_
  | with_reducible refine w_dnotin ?_
  | with_reducible refine w_dput ?_
  | with_reducible refine w_dget2 ?_
  | with_reducible refine w_fld ?_
  | with_reducible refine w_dnew ?_
  | with_reducible refine w_lc ?_
  | with_reducible refine w_dc ?_
  | with_reducible refine w_iStr ?_
  | with_reducible refine w_str ?_
  | with_reducible refine w_iEnum ?_
  | with_reducible refine w_iZip ?_
  | with_reducible refine w_yes ?_
  | with_reducible refine w_gtup ?_
  | with_reducible refine w_gcons ?_
  | with_reducible refine w_rcons ?_
  | with_reducible refine w_gnil ?_
  | with_reducible refine w_leS ?_
  | with_reducible refine w_isN ?_
  | with_reducible refine w_notN ?_
  | with_reducible refine w_call ?_
  | with_reducible refine w_meth ?_
  | with_reducible refine w_bm ?_
  | with_reducible refine w_bm0 ?_
  | with_reducible refine isi_int ?_
  | with_reducible refine isi_bl_int ?_
  | with_reducible refine isi_int_bl ?_
  | with_reducible refine isi_bl ?_
  | with_reducible refine isi_str ?_
  | with_reducible refine isi_non_dict ?_
  | with_reducible refine isi_int_dict ?_
  | with_reducible refine w_ntrue ?_
  | with_reducible refine w_nfalse ?_
  | with_reducible refine w_wt ?_
  | with_reducible refine w_starD ?_
  | with_reducible refine w_starT ?_
  | with_reducible refine w_listVals ?_
  | with_reducible refine w_iEnumT ?_
  | with_reducible refine w_iEnumS ?_
  | with_reducible refine w_enumS ?_
  | with_reducible refine w_frz ?_
  | with_reducible refine w_iItems ?_
  | with_reducible refine w_iKeys ?_
  | with_reducible refine w_iVals ?_
  | with_reducible refine w_strS ?_
  | with_reducible refine w_daug ?_
  | with_reducible refine w_rAdd ?_
  | with_reducible refine w_sfld ?_
  | ((with_reducible refine' w_var ?wsd ?_); (case wsd => first | rfl | assumption))
  | ((with_reducible refine' w_eq ?wsd ?_); (case wsd => rfl))
  | ((with_reducible refine' w_ne ?wsd ?_); (case wsd => rfl))
  | ((with_reducible refine' w_lenL ?wsd ?_); (case wsd => walk_at "sq"))
  | ((with_reducible refine' w_lenT ?wsd ?_); (case wsd => walk_at "sq"))
  | ((with_reducible refine' w_itL ?wsd ?_); (case wsd => walk_at "sq"))
  | ((with_reducible refine' w_itT ?wsd ?_); (case wsd => walk_at "sq"))
  | ((with_reducible refine' w_rng1v ?wsd ?_); (case wsd => omega))
  | ((with_reducible refine' w_rng2v ?wsd ?_); (case wsd => omega))
  | ((with_reducible refine' w_I ?wsd ?_); (case wsd => walk_at "side"))
  | ((with_reducible refine' w_dtrue ?wsd ?_); (case wsd => first | assumption | omega | rfl | decide))
  | ((with_reducible refine' w_dfalse ?wsd ?_); (case wsd => first | assumption | omega | decide))
  | ((with_reducible refine' w_ndtrue ?wsd ?_); (case wsd => first | assumption | omega | rfl | decide))
  | ((with_reducible refine' w_ndfalse ?wsd ?_); (case wsd => first | assumption | omega | decide))
  | ((with_reducible refine' w_stD ?wsd ?_); (case wsd => walk_at "hp"))
  | ((with_reducible refine' w_stT ?wsd ?_); (case wsd => walk_at "sq"))
  | ((with_reducible refine' w_stL ?wsd ?_); (case wsd => walk_at "sq"))
  | ((with_reducible refine' w_isD ?wsd ?_); (case wsd => walk_at "hp"))
  | ((with_reducible refine' isi_tup ?wsd ?_); (case wsd => walk_at "sq"))
  | ((with_reducible refine' isi_dict ?wsd ?_); (case wsd => walk_at "hp"))
  | ((with_reducible refine' w_lenDv ?wsd ?_); (case wsd => walk_at "hp"))
  | ((with_reducible refine' w_enum ?wsd ?_); (case wsd => walk_at "sq"))
  | ((with_reducible refine' w_enumT ?wsd ?_); (case wsd => walk_at "sq"))
  | ((with_reducible refine' w_tyL ?wsd ?_); (case wsd => walk_at "sq")))
local macro_rules | `(tactic| walk_at "side") => `(tactic| first | omega | decide | (constructor <;> omega) | (constructor <;> decide) | (simp only [List.length_map, List.length_append, List.length_cons, List.length_nil, CDivN, CMul, CPow]; first | omega | decide | (constructor <;> omega)))
local macro_rules | `(tactic| walk_at "w") => `(tactic| repeat (walk_at "w1"))
def spLawRoundsFor (K : PySem.W.Frag) : Sp := fun vs H Q _ => ∃ (d sd wd : Addr) (most : Nat) (N : NetD) (p0 : Str → Nat) (w0 : Str → Nat) (ws : List Str), vs = [.ref d, .ref sd, .ref wd, .int most] ∧ most ≤ 5000 ∧ KnotsAt K H d N ∧ N.Ok ∧
  H sd = some (DI N.names fun k => (p0 k : Int)) ∧ H wd = some (DI ws fun k => (w0 k : Int)) ∧ ws.Nodup ∧ (∀ k ∈ ws, k ∈ N.names) ∧ ∀ v H', Same H H' → (v = .non ∨ ∃ n : Int, v = .int n) → Q v H'
abbrev N_law_rounds_for : List Str := ["_law_knots_here", "_law_standing", "_law_waiting_here", "_law_most", "_law_places", "_law_now", "_law_found", "_law_many", "_law_late", "_law_name", "_law_front", "_law_turn", "_law_place", "_law_left", "_law_target", "_law_whole", "_law_rest", "_law_at", "_law_step", "_law_drop_here", "_law_times"]
theorem sc_law_rounds_for : FnScope N_law_rounds_for ["_law_knots_here", "_law_standing", "_law_waiting_here", "_law_most"] (defScope s_law_rounds_for) := ⟨rfl, rfl, rfl, by decide +kernel, rfl, by decide +kernel, by decide +kernel⟩
theorem w_andB {c : Bool} {A B : Prop} (hB : B) (hA : c = true → B → A) : RIte c A B := by
  cases c with
  | true => exact hA rfl hB
  | false => exact hB
theorem rite_f {A B : Prop} (h : RIte false A B) : B := by
  unfold RIte at h
  rw [if_neg (by simp)] at h
  exact h
section
variable {P : Program} {w : World} {K : PySem.W.Frag} {mg : Str → Option Value} {base : Heap}
theorem ok_law_rounds_for (T : TX K mg) : Fok P w K mg base CX0 1 (He.ga K "_law_rounds_for") ["_law_knots_here", "_law_standing", "_law_waiting_here", "_law_most"] [] (spLawRoundsFor K) := by
  obtain ⟨fd, F⟩ := T.fn_law_rounds_for
  refine ⟨⟨fd, [], ?_, F.bindsN fun _ _ _ _ _ _ us hl => match us, hl with | [_, _, _, _], _ => rfl, .nil⟩, F.kp⟩
  refine F.ok sc_law_rounds_for (fun vs H Q E h => ?_) (fun cdv A outer s H vs Q E hr h => ?_)
  · obtain ⟨_, _, _, _, _, _, _, _, rfl, _⟩ := h
    rfl
  obtain ⟨d, sd, wd, most, N, p0, w0, ws, rfl, hmost, hkn, hok, hsd, hwd, hwnd, hwn, k⟩ := h
  have hu := hu_of hr
  have hln := hok.len
  obtain ⟨ka, hka, hkk⟩ := id hkn
  refine ssx_nox ?_
  refine ssx_cons (ps_par3 (i := 4) (j := 5) (l := 6) rfl sc_law_rounds_for.nd rfl rfl rfl (by decide) (by decide) (by decide) rfl rfl rfl (pa_cons (pe_callTy (q_dictP K rfl) rfl T.f_dict bt_dict (pa_cons (LiI.pe_listItems rfl (pv 1) rfl T.f_list bt_list) pa_nil)) (pa_cons (pe_callTy (q_dictP K rfl) rfl T.f_dict bt_dict (pa_cons (LiI.pe_listItems rfl (pv 2) rfl T.f_list bt_list) pa_nil)) (pa_cons pe_int pa_nil))) rfl) ?_
  walk_at "w"
  refine w_listItems ?_
  walk_at "w"
  refine w_itemsL (K := K) (ks := N.names) (f := fun k => .int (p0 k : Int)) hsd fun l1 t1 H1 s1 h1 hP1 => ?_
  walk_at "w"
  refine w_dictPs (sqL h1) hP1 hok.nodup fun pl H2 hpl s2 h2 => ?_
  walk_at "w"
  refine w_listItems ?_
  walk_at "w"
  have s12 := s1.trans s2
  refine w_itemsL (K := K) (ks := ws) (f := fun k => .int (w0 k : Int)) (s12 _ _ hwd) fun l3 t3 H3 s3 h3 hP3 => ?_
  walk_at "w"
  refine w_dictPs (sqL h3) hP3 hwnd fun nw H4 hnw s4 h4 => ?_
  walk_at "w"
  have s04 := s12.trans (s3.trans s4)
  have h4p : H4 pl = some (DI N.names fun k => (p0 k : Int)) := s4 _ _ (s3 _ _ h2)
  have hpl0 : H pl = none := s1.free hpl
  have hnw0 : H nw = none := (s12.trans s3).free hnw
  have hpn : pl ≠ nw := fun z => by rw [← z, s3 _ _ h2] at hnw; cases hnw
  clear s1 h1 hP1 s2 h2 s12 s3 h3 hP3 s4 hpl hnw
  refine ssx_cons (ps_while PassesOwn.never (pt_val (pe_callB (q_any K rfl) rfl T.f_any bb_any (pa_cons (pe_lock (pe_lc (own := [("_law_many", 7)]) rfl sc_law_rounds_for.nd (pi_values (pv 5)) (blkOk_by (N := N_law_rounds_for) (sc := defScope s_law_rounds_for) (by decide +kernel)) (fun _ _ _ _ _ => (pg_name (i := 7) sc_law_rounds_for.nd rfl (Or.inl rfl))) (fun _ _ _ _ _ => pts_nil) (fun _ _ _ _ _ => (pe_cmpR op_gt (pv 7) pe_int (nomark _))))) pa_nil))) SSX.ps) ?_
  refine w_while (fun m σ H5 => ∃ (nw : Addr) (fo : Nat) (pf g : Str → Int) (ws : List Str) (o7 o8 o9 o10 o11 o12 o13 o14 o15 o16 o17 o18 o19 o20 : Option V), σ = [some (.ref d), some (.ref sd), some (.ref wd), some (.int most), some (.ref pl), some (.ref nw), some (.int fo), o7, o8, o9, o10, o11, o12, o13, o14, o15, o16, o17, o18, o19, o20] ∧ Same H H5 ∧ H5 pl = some (DI N.names pf) ∧ (∀ k ∈ N.names, 0 ≤ pf k) ∧ H5 nw = some (DI ws g) ∧ H nw = none ∧ pl ≠ nw ∧ ws.Nodup ∧ (∀ k ∈ ws, k ∈ N.names) ∧ m = most - fo) most ⟨nw, 0, _, _, ws, _, _, _, _, _, _, _, _, _, _, _, _, _, _, rfl, s04, h4p, fun k _ => Int.natCast_nonneg _, h4, hnw0, hpn, hwnd, hwn, rfl⟩ ?_
  clear hpn hnw0 h4 h4p s04 hwnd hwn hwd
  rintro m σ H5 ⟨nw, fo, pf, g, ws, o7, o8, o9, o10, o11, o12, o13, o14, o15, o16, o17, o18, o19, o20, rfl, s5, h5p, hpf, h5n, hnw0, hpn, hwnd, hwn, rfl⟩
  walk_at "w"
  have hwl : ws.length ≤ 4 := Nat.le_trans (List.Nodup.length_le_of_subset hwnd hwn) hln.2
  refine w_lockE h5n fun od => ?_
  walk_at "w"
  refine w_vls frz_at ?_
  refine rlcV walk_vs (fun i acc => ∃ bs : List Bool, acc = bs.map V.bl) (by omega) (fun H' s' => s' _ _ frz_at) ⟨[], rfl⟩ ?_ ?_
  · rintro i acc y _ H6 hi _ s6 ⟨bs, rfl⟩ ⟨rfl, k0, hk0, rfl⟩ KT KF hKT _
    walk_at "w"
    refine ⟨rfl, ?_⟩
    walk_at "w"
    exact hKT _ _ (Same.refl _) ⟨bs ++ [_], by rw [List.map_append]; rfl⟩
  rintro D acc H6 hD s6 h6 _ ⟨bs, rfl⟩
  refine ⟨s6 _ _ frz_at, ?_⟩
  have hDd : D ≠ nw := fun z => by rw [z, upd_same] at hD; cases hD
  have s7 : Same H5 (upd H6 nw (DI ws g)) := Same.unlock h5n s6
  have h7 : upd H6 nw (DI ws g) D = some (.lst (bs.map V.bl)) := by rw [upd_ne hDd]; exact h6
  generalize upd H6 nw (DI ws g) = H7 at *
  walk_at "w"
  refine w_any (sqL h7) ?_
  have s07 := s5.trans s7
  have h7p := s7 _ _ h5p
  have h7n := s7 _ _ h5n
  clear s7 h7 s5 h5p h5n s6 h6 hD hDd
  walk_at "w"
  refine w_both (fun hb => ?_) fun hb => ?_
  · refine w_wt ?_
    refine ssx_cons (ps_par (i := 8) (j := 6) rfl sc_law_rounds_for.nd rfl rfl (by decide) rfl rfl (pa_cons pe_dnewK (pa_cons (pe_op op_add (pv 6) pe_int) pa_nil)) rfl) ?_
    walk_at "w"
    refine w_new fun lt H8 hlt s8 h8 => ?_
    walk_at "w"
    refine ssx_cons (ps_if (pt_cmpR op_gt (pv 6) (pv 3) (nomark _)) SSX.ps SSX.ps) ?_
    walk_at "w"
    refine w_dcases (fun hgt => ?_) fun hgt => ?_
    · refine ssx_cons (ps_ret pe_non) ?_
      walk_at "w"
      exact k _ _ (s07.trans s8) (.inl rfl)
    refine ssx_nil ?_
    have hfo : fo < most := by omega
    have s08 := s07.trans s8
    have h8p := s8 _ _ h7p
    have h8n := s8 _ _ h7n
    have hlt0 : H lt = none := s07.free hlt
    have hltp : lt ≠ pl := fun z => by rw [z, h7p] at hlt; cases hlt
    have hltn : lt ≠ nw := fun z => by rw [z, h7n] at hlt; cases hlt
    clear s07 h7p h7n s8 hlt
    refine ssx_cons (ps_lock (ps_for PassesOwn.never rfl (pi_items (pv 5)) (qg_tup (n := 2) K rfl (pgs_cons (pg_name (i := 9) sc_law_rounds_for.nd rfl (Or.inl rfl)) (pgs_cons (pg_name (i := 7) sc_law_rounds_for.nd rfl (Or.inl rfl)) pgs_nil))) SSX.ps)) ?_
    refine w_lock h8n fun od => ?_
    walk_at "w"
    refine w_itm frz_at ?_
    have hdn : d ≠ nw := fun z => by rw [z, hnw0] at hka; cases hka
    refine for_walk walk_its (fun i σ H9 => (∃ o7 o9 o10 o11 o12 o13 o14 o15 o16 o17 o18 o19 o20, σ = [some (.ref d), some (.ref sd), some (.ref wd), some (.int most), some (.ref pl), some (.ref nw), some (.int ((fo : Int) + 1)), o7, some (.ref lt), o9, o10, o11, o12, o13, o14, o15, o16, o17, o18, o19, o20]) ∧ Same H H9 ∧ H9 nw = some (.frz od (DI ws g)) ∧ (∃ pf, H9 pl = some (DI N.names pf) ∧ ∀ k ∈ N.names, 0 ≤ pf k) ∧ ∃ ls gl, H9 lt = some (DI ls gl) ∧ Zr ls gl ∧ ls.Nodup ∧ ∀ k ∈ ls, k ∈ N.names) ?_ ?_ ?_ ?_
    · exact ⟨⟨_, _, _, _, _, _, _, _, _, _, _, _, _, rfl⟩, Same.mut s08 hnw0, frz_at, ⟨pf, by rw [upd_ne hpn]; exact h8p, hpf⟩, [], fun _ => 0, by rw [upd_ne hltn]; exact h8, fun _ _ => rfl, .nil, by simp⟩
    · rintro i σ H9 _ ⟨_, _, h, _⟩
      exact h
    · rintro i x σ H9 _ hi ⟨⟨o7, o9, o10, o11, o12, o13, o14, o15, o16, o17, o18, o19, o20, rfl⟩, s9, h9n, ⟨pf, h9p, hpf⟩, ls, gl, h9l, hzl, hlnd, hlsn⟩ ⟨T9, y, rfl, hT9, rfl, hy⟩
      have hyn := hwn y (List.mem_of_getElem? hy)
      refine g_pair ?_
      have eA : Same H9 (upd H9 T9 (.tup [.str y, .int (g y)])) := Same.alloc hT9
      have sA := s9.trans eA
      have hAn := eA _ _ h9n
      have hAp := eA _ _ h9p
      have hAl := eA _ _ h9l
      generalize upd H9 T9 (.tup [.str y, .int (g y)]) = HA at *
      clear s9 h9n h9p h9l eA hT9
      obtain ⟨kv, fa, ta, k1, k2, ⟨fs, f1, f2⟩, ⟨ds, t1, t2⟩⟩ := NetAt.knot hkn hyn
      have hfs := paired_len f2
      have hds := paired_len t2
      have hfl := hok.fl y hyn
      have htl := hok.tl y hyn
      have htd : (N.tn y).length = ds.length := hds.symm
      refine ssx_cons (ps_asg (pe_dget hu (pv 0) (pv 9) (fun _ _ => rfl)) (qg_tup (n := 2) K rfl (pgs_cons (pg_name (i := 10) sc_law_rounds_for.nd rfl (Or.inl rfl)) (pgs_cons (pg_name (i := 11) sc_law_rounds_for.nd rfl (Or.inl rfl)) pgs_nil)))) ?_
      walk_at "w"
      refine w_getK (sA _ _ k1) hyn ?_
      refine w_tu (Same.sqt sA k2) rfl ?_
      walk_at "w"
      refine ssx_cons (ps_par (i := 12) (j := 13) rfl sc_law_rounds_for.nd rfl rfl (by decide) rfl rfl (pa_cons (pe_dget hu (pv 4) (pv 9) (fun _ _ => rfl)) (pa_cons (pv 7) pa_nil)) rfl) ?_
      walk_at "w"
      refine w_getI hAp hyn ?_
      walk_at "w"
      refine ssx_cons (ps_while PassesOwn.never (PW.pt (pw_and (pt_cmpR op_gt (pv 13) pe_int (nomark _)) (pw_and1 (pt_cmpR op_lt (pv 12) (pe_callB (q_len K) rfl T.f_len bb_len (pa_cons (pv 10) pa_nil)) (nomark _))))) SSX.ps) ?_
      refine w_while (fun m σ HB => ∃ (pla lef : Int) (o14 o15 o16 o17 o18 o19 o20 : Option V), σ = [some (.ref d), some (.ref sd), some (.ref wd), some (.int most), some (.ref pl), some (.ref nw), some (.int ((fo : Int) + 1)), some (.int (g y)), some (.ref lt), some (.str y), some (.ref fa), some (.ref ta), some (.int pla), some (.int lef), o14, o15, o16, o17, o18, o19, o20] ∧ 0 ≤ pla ∧ Same H HB ∧ HB nw = some (.frz od (DI ws g)) ∧ HB pl = some (DI N.names pf) ∧ (∃ ls gl, HB lt = some (DI ls gl) ∧ Zr ls gl ∧ ls.Nodup ∧ ∀ k ∈ ls, k ∈ N.names) ∧ m = (N.fr y).length - pla.toNat) ((N.fr y).length - (pf y).toNat) ⟨_, _, _, _, _, _, _, _, _, rfl, hpf y hyn, sA, hAn, hAp, ⟨ls, gl, hAl, hzl, hlnd, hlsn⟩, rfl⟩ ?_
      clear hAn hAp hAl sA hzl hlnd hlsn
      rintro m σ HB ⟨pla, lef, o14, o15, o16, o17, o18, o19, o20, rfl, hpla, sB, hBn, hBp, ⟨ls, gl, hBl, hzl, hlnd, hlsn⟩, rfl⟩
      have hFB0 := Same.sqt sB f1
      walk_at "w"
      refine w_andB ?_ fun hlef hB => ?_
      · have hTB := Same.sqt sB t1
        have hFB := Same.sqt sB f1
        walk_at "w"
        refine ssx_cons (ps_par (i := 15) (j := 16) rfl sc_law_rounds_for.nd rfl rfl (by decide) rfl rfl (pa_cons (pe_op op_fdivN (pv 13) (pe_callB (q_len K) rfl T.f_len bb_len (pa_cons (pv 11) pa_nil))) (pa_cons (pe_op op_modN (pe_callTy k_int rfl T.f_int bt_int (pa_cons (pv 13) pa_nil)) (pe_callB (q_len K) rfl T.f_len bb_len (pa_cons (pv 11) pa_nil))) pa_nil)) rfl) ?_
        walk_at "w"
        refine ssx_cons (ps_set (i := 17) sc_law_rounds_for.nd rfl (Or.inl rfl) (pe_callB (k_max2 rfl) rfl T.f_max bb_max (pa_cons (pe_op op_sub (pv 12) (pe_callB (q_len K) rfl T.f_len bb_len (pa_cons (pv 10) pa_nil))) (pa_cons pe_int pa_nil)))) ?_
        walk_at "w"
        refine ⟨_, _, rfl, ?_⟩
        walk_at "w"
        refine ssx_cons (ps_for PassesOwn.never rfl (qi_enumT K rfl T.f_enumerate (pa_cons (pv 11) pa_nil)) (qg_tup (n := 2) K rfl (pgs_cons (pg_name (i := 18) sc_law_rounds_for.nd rfl (Or.inl rfl)) (pgs_cons (pg_name (i := 19) sc_law_rounds_for.nd rfl (Or.inl rfl)) pgs_nil))) SSX.ps) ?_
        walk_at "w"
        obtain ⟨wh, hwh⟩ : ∃ wh : Int, wh = lef.fdiv ((ds.map V.ref).length : Int) := ⟨_, rfl⟩
        obtain ⟨rs, hrs⟩ : ∃ rs : Int, rs = lef.fmod ((ds.map V.ref).length : Int) := ⟨_, rfl⟩
        obtain ⟨ap, hap⟩ : ∃ ap : Int, ap = if 0 > pla - ((fs.map V.ref).length : Int) then 0 else pla - ((fs.map V.ref).length : Int) := ⟨_, rfl⟩
        rw [← hwh, ← hrs, ← hap]
        refine for_walk (walk_enumT (xs := ds.map V.ref)) (fun i σ HC => (∃ o14 o18 o19 o20, σ = [some (.ref d), some (.ref sd), some (.ref wd), some (.int most), some (.ref pl), some (.ref nw), some (.int ((fo : Int) + 1)), some (.int (g y)), some (.ref lt), some (.str y), some (.ref fa), some (.ref ta), some (.int pla), some (.int lef), o14, some (.int wh), some (.int rs), some (.int ap), o18, o19, o20]) ∧ Same H HC ∧ HC nw = some (.frz od (DI ws g)) ∧ HC pl = some (DI N.names pf) ∧ ∃ ls gl, HC lt = some (DI ls gl) ∧ Zr ls gl ∧ ls.Nodup ∧ ∀ k ∈ ls, k ∈ N.names) ?_ ?_ ?_ ?_
        · exact ⟨⟨_, _, _, _, rfl⟩, sB, hBn, hBp, ls, gl, hBl, hzl, hlnd, hlsn⟩
        · rintro i σ HC _ ⟨_, s, _⟩
          exact Same.sqt s t1
        · rintro i x σ HC _ hi ⟨⟨o14, o18, o19, o20, rfl⟩, sC, hCn, hCp, ls, gl, hCl, hzl, hlnd, hlsn⟩ ⟨T2, _, y2, rfl, hT2, rfl, e0, ey⟩
          cases e0
          obtain ⟨q, hq, rfl⟩ := map_get ey
          rw [List.length_map] at hi
          have hdr : (N.tn y)[i]? = some ((N.tn y)[i]'(by omega)) := List.getElem?_eq_getElem _
          obtain ⟨q', e1, e2⟩ := paired_get t2 hdr
          rw [hq] at e1; cases e1
          generalize (N.tn y)[i]'(by omega) = dr at *
          refine g_pair ?_
          have eD : Same HC (upd HC T2 (.tup [.int (i : Nat), .ref q])) := Same.alloc hT2
          have sD := sC.trans eD
          have hDn := eD _ _ hCn
          have hDp := eD _ _ hCp
          have hDl := eD _ _ hCl
          generalize upd HC T2 (.tup [.int (i : Nat), .ref q]) = HD at *
          clear sC hCn hCp hCl eD hT2
          have hTD := Same.sqt sD t1
          refine ssx_cons (ps_set (i := 20) sc_law_rounds_for.nd rfl (Or.inl rfl) (pe_op op_add (pv 15) (pe_ifExp (pt_cmpR op_lt (pe_op op_modN (pe_callTy k_int rfl T.f_int bt_int (pa_cons (pe_op op_sub (pv 18) (pv 17)) pa_nil)) (pe_callB (q_len K) rfl T.f_len bb_len (pa_cons (pv 11) pa_nil))) (pv 16) (nomark _)) pe_int pe_int))) ?_
          walk_at "w"
          refine w_both (fun _ => ?_) fun _ => ?_
          all_goals
            walk_at "w"
            refine ssx_cons (ps_for PassesOwn.never rfl (qi_tup K (pv 19)) (pg_name (i := 14) sc_law_rounds_for.nd rfl (Or.inl rfl)) SSX.ps) ?_
            have hqD := Same.sqt sD e2
            walk_at "w"
            refine for_txt (xs := dr) (fun j σ HE => (∃ (o14 : Option V) (tm : Int), σ = [some (.ref d), some (.ref sd), some (.ref wd), some (.int most), some (.ref pl), some (.ref nw), some (.int ((fo : Int) + 1)), some (.int (g y)), some (.ref lt), some (.str y), some (.ref fa), some (.ref ta), some (.int pla), some (.int lef), o14, some (.int wh), some (.int rs), some (.int ap), some (.int (i : Nat)), some (.ref q), some (.int tm)]) ∧ Same H HE ∧ SqT K HE q (dr.map V.str) ∧ HE nw = some (.frz od (DI ws g)) ∧ HE pl = some (DI N.names pf) ∧ ∃ ls gl, HE lt = some (DI ls gl) ∧ Zr ls gl ∧ ls.Nodup ∧ ∀ k ∈ ls, k ∈ N.names) ?_ ?_ ?_ ?_
            · rintro j σ HE ⟨_, _, h, _⟩
              exact h
            · exact ⟨⟨_, _, rfl⟩, sD, Same.sqt sD e2, hDn, hDp, ls, gl, hDl, hzl, hlnd, hlsn⟩
            · rintro j z σ HE hz ⟨⟨o14, tm, rfl⟩, sE, hEq, hEn, hEp, ls, gl, hEl, hzl, hlnd, hlsn⟩
              have hll : ls.length ≤ 4 := Nat.le_trans (List.Nodup.length_le_of_subset hlnd hlsn) hln.2
              walk_at "w"
              refine ssx_cons (ps_if (pt_cmp (pc_din hu (pv 14) (pv 0))) SSX.ps SSX.ps) ?_
              walk_at "w"
              refine w_inK (sE _ _ hka) ?_
              walk_at "w"
              refine w_dcases (fun hzn => ?_) fun _ => ?_
              · refine ssx_cons (ps_dput hu (pv 8) (pv 14) (pe_op op_add (pe_dget2 hu (pv 8) (pv 14) pe_int ⟨rfl, rfl, rfl, rfl⟩) (pv 20)) rfl) ?_
                walk_at "w"
                refine w_getOI hEl hzl ?_
                walk_at "w"
                refine w_putI hEl (by omega) ?_
                refine ssx_nil (ssx_nil ⟨⟨_, _, rfl⟩, Same.mut sE hlt0, sqT_upd hEq hEl, by rw [upd_ne hltn.symm]; exact hEn, by rw [upd_ne hltp.symm]; exact hEp, _, _, upd_same, hzl.put _ _, ins_nodup hlnd, fun k hk => ?_⟩)
                rcases ins_mem.mp hk with hk | hk
                · exact hlsn k hk
                · rw [hk]; exact hzn
              · exact ssx_nil (ssx_nil ⟨⟨_, _, rfl⟩, sE, hEq, hEn, hEp, ls, gl, hEl, hzl, hlnd, hlsn⟩)
            · rintro σ HE ⟨⟨o14, tm, rfl⟩, sE, hEq, hEn, hEp, ls, gl, hEl, hzl, hlnd, hlsn⟩
              exact ssx_nil ⟨⟨_, _, _, _, rfl⟩, sE, hEn, hEp, ls, gl, hEl, hzl, hlnd, hlsn⟩
        · rintro σ HC ⟨⟨o14, o18, o19, o20, rfl⟩, sC, hCn, hCp, ls, gl, hCl, hzl, hlnd, hlsn⟩
          have hend : ∀ nv : Int, 0 ≤ nv → (∃ p7 p9 p10 p11 p12 p13 p14 p15 p16 p17 p18 p19 p20 : Option V, ([some (.ref d), some (.ref sd), some (.ref wd), some (.int most), some (.ref pl), some (.ref nw), some (.int ((fo : Int) + 1)), some (.int (g y)), some (.ref lt), some (.str y), some (.ref fa), some (.ref ta), some (.int pla), some (.int lef), o14, some (.int wh), some (.int rs), some (.int ap), o18, o19, o20] : L2.St) = [some (.ref d), some (.ref sd), some (.ref wd), some (.int most), some (.ref pl), some (.ref nw), some (.int ((fo : Int) + 1)), p7, some (.ref lt), p9, p10, p11, p12, p13, p14, p15, p16, p17, p18, p19, p20]) ∧ Same H (upd HC pl (DI (ins N.names y) (up pf y nv))) ∧ (upd HC pl (DI (ins N.names y) (up pf y nv))) nw = some (.frz od (DI ws g)) ∧ (∃ pf', (upd HC pl (DI (ins N.names y) (up pf y nv))) pl = some (DI N.names pf') ∧ ∀ k ∈ N.names, 0 ≤ pf' k) ∧ ∃ ls gl, (upd HC pl (DI (ins N.names y) (up pf y nv))) lt = some (DI ls gl) ∧ Zr ls gl ∧ ls.Nodup ∧ ∀ k ∈ ls, k ∈ N.names := by
            intro nv hnv
            refine ⟨⟨_, _, _, _, _, _, _, _, _, _, _, _, _, rfl⟩, Same.mut sC hpl0, by rw [upd_ne hpn.symm]; exact hCn, ⟨_, by rw [upd_same, ins_same hyn], fun k hk => ?_⟩, ls, gl, by rw [upd_ne hltp]; exact hCl, hzl, hlnd, hlsn⟩
            by_cases e : k = y
            · subst e; rw [show up pf k nv k = nv from NetD.up_same]; exact hnv
            · rw [show up pf y nv k = pf k from NetD.up_ne e]; exact hpf k hk
          have hTC := Same.sqt sC t1
          have hFC := Same.sqt sC f1
          refine ssx_cons (ps_dput hu (pv 4) (pv 9) (pe_ifExp (pt_cmpR op_lt (pv 12) (pe_callB (q_len K) rfl T.f_len bb_len (pa_cons (pv 10) pa_nil)) (nomark _)) (pv 12) (pe_op op_add (pe_callB (q_len K) rfl T.f_len bb_len (pa_cons (pv 10) pa_nil)) (pe_op op_modN (pe_callTy k_int rfl T.f_int bt_int (pa_cons (pe_op op_add (pv 17) (pv 13)) pa_nil)) (pe_callB (q_len K) rfl T.f_len bb_len (pa_cons (pv 11) pa_nil))))) rfl) ?_
          walk_at "w"
          refine w_both (fun _ => ?_) fun _ => ?_
          · walk_at "w"
            refine w_putI hCp (by omega) ?_
            exact ssx_nil (hend _ hpla)
          · walk_at "w"
            have hm0 := (fmod_bd (x := ap + lef) (m := ((ds.map V.ref).length : Int)) (by rw [List.length_map]; omega)).1
            have hm1 : 0 ≤ ((fs.map V.ref).length : Int) + (ap + lef).fmod ((ds.map V.ref).length : Int) := by omega
            generalize ((fs.map V.ref).length : Int) + (ap + lef).fmod ((ds.map V.ref).length : Int) = nv at hm1 ⊢
            refine w_putI hCp (by omega) ?_
            exact ssx_nil (hend _ hm1)
      · walk_at "w"
        refine w_dcases (fun hlt2 => ?_) fun _ => rite_f hB
        refine w_wt ?_
        obtain ⟨pn, rfl⟩ : ∃ pn : Nat, pla = (pn : Int) := ⟨pla.toNat, by omega⟩
        rw [List.length_map] at hlt2
        have hpf2 : pn < fs.length := by omega
        have hdr : (N.fr y)[pn]? = some ((N.fr y)[pn]'(by omega)) := List.getElem?_eq_getElem _
        obtain ⟨q, e1, e2⟩ := paired_get f2 hdr
        generalize (N.fr y)[pn]'(by omega) = dr at *
        refine ssx_cons (ps_for PassesOwn.never rfl (qi_tup K (pe_ix (q_ixT K) (pv 10) (pv 12) (fun _ _ => rfl))) (pg_name (i := 14) sc_law_rounds_for.nd rfl (Or.inl rfl)) SSX.ps) ?_
        walk_at "w"
        refine w_ixT (v := .ref q) (Same.sqt sB f1) (atI_nat (by rw [List.getElem?_map, e1]; rfl)) ?_
        refine w_itT (Same.sqt sB e2) ?_
        refine for_txt (xs := dr) (fun j σ HE => (∃ o14 : Option V, σ = [some (.ref d), some (.ref sd), some (.ref wd), some (.int most), some (.ref pl), some (.ref nw), some (.int ((fo : Int) + 1)), some (.int (g y)), some (.ref lt), some (.str y), some (.ref fa), some (.ref ta), some (.int (pn : Int)), some (.int lef), o14, o15, o16, o17, o18, o19, o20]) ∧ Same H HE ∧ SqT K HE q (dr.map V.str) ∧ HE nw = some (.frz od (DI ws g)) ∧ HE pl = some (DI N.names pf) ∧ ∃ ls gl, HE lt = some (DI ls gl) ∧ Zr ls gl ∧ ls.Nodup ∧ ∀ k ∈ ls, k ∈ N.names) ?_ ?_ ?_ ?_
        · rintro j σ HE ⟨_, _, h, _⟩
          exact h
        · exact ⟨⟨_, rfl⟩, sB, Same.sqt sB e2, hBn, hBp, ls, gl, hBl, hzl, hlnd, hlsn⟩
        · rintro j z σ HE hz ⟨⟨o14, rfl⟩, sE, hEq, hEn, hEp, ls, gl, hEl, hzl, hlnd, hlsn⟩
          have hll : ls.length ≤ 4 := Nat.le_trans (List.Nodup.length_le_of_subset hlnd hlsn) hln.2
          walk_at "w"
          refine ssx_cons (ps_if (pt_cmp (pc_din hu (pv 14) (pv 0))) SSX.ps SSX.ps) ?_
          walk_at "w"
          refine w_inK (sE _ _ hka) ?_
          walk_at "w"
          refine w_dcases (fun hzn => ?_) fun _ => ?_
          · refine ssx_cons (ps_dput hu (pv 8) (pv 14) (pe_op op_add (pe_dget2 hu (pv 8) (pv 14) pe_int ⟨rfl, rfl, rfl, rfl⟩) pe_int) rfl) ?_
            walk_at "w"
            refine w_getOI hEl hzl ?_
            walk_at "w"
            refine w_putI hEl (by omega) ?_
            refine ssx_nil (ssx_nil ⟨⟨_, rfl⟩, Same.mut sE hlt0, sqT_upd hEq hEl, by rw [upd_ne hltn.symm]; exact hEn, by rw [upd_ne hltp.symm]; exact hEp, _, _, upd_same, hzl.put _ _, ins_nodup hlnd, fun k hk => ?_⟩)
            rcases ins_mem.mp hk with hk | hk
            · exact hlsn k hk
            · rw [hk]; exact hzn
          · exact ssx_nil (ssx_nil ⟨⟨_, rfl⟩, sE, hEq, hEn, hEp, ls, gl, hEl, hzl, hlnd, hlsn⟩)
        · rintro σ HE ⟨⟨o14, rfl⟩, sE, hEq, hEn, hEp, ls, gl, hEl, hzl, hlnd, hlsn⟩
          refine ssx_cons (ps_par (i := 12) (j := 13) rfl sc_law_rounds_for.nd rfl rfl (by decide) rfl rfl (pa_cons (pe_op op_add (pv 12) pe_int) (pa_cons (pe_op op_sub (pv 13) pe_int) pa_nil)) rfl) ?_
          walk_at "w"
          exact ssx_nil ⟨_, by omega, _, _, _, _, _, _, _, _, _, rfl, by omega, sE, hEn, hEp, ⟨ls, gl, hEl, hzl, hlnd, hlsn⟩, rfl⟩
    · rintro σ H9 ⟨⟨o7, o9, o10, o11, o12, o13, o14, o15, o16, o17, o18, o19, o20, rfl⟩, s9, h9n, ⟨pf, h9p, hpf⟩, ls, gl, h9l, hzl, hlnd, hlsn⟩
      refine ⟨h9n, ?_⟩
      refine ssx_cons (ps_set (i := 5) sc_law_rounds_for.nd rfl (Or.inl rfl) (pv 8)) ?_
      walk_at "w"
      refine ssx_nil ⟨_, ?_, lt, fo + 1, pf, gl, ls, _, _, _, _, _, _, _, _, _, _, _, _, _, _, rfl, Same.mut s9 hnw0, by rw [upd_ne hpn]; exact h9p, hpf, by rw [upd_ne hltn]; exact h9l, hlt0, hltp.symm, hlnd, hlsn, rfl⟩
      omega
  · refine ssx_cons (ps_ret (pv 6)) ?_
    walk_at "w"
    exact k _ _ s07 (.inr ⟨_, rfl⟩)
end
end K1
namespace K1
open PySem PySem.Spec L2
open PyProof.Rows hiding St
local macro_rules | `(tactic| walk_at "hp") => `(tactic| first | assumption | exact upd_same)
local macro_rules | `(tactic| walk_at "sq") => `(tactic| first | assumption | exact sqL (by assumption) | exact sqT (by assumption))
local macro_rules | `(tactic| walk_at "w1") => `(tactic| first
  | with_reducible refine w_asg ?_
  | with_reducible refine w_c ?_
  | with_reducible refine w_gname ?_
  | with_reducible refine w_if ?_
  | with_reducible refine w_ifs ?_
  | with_reducible refine w_test ?_
  | with_reducible refine w_tB ?_
  | with_reducible refine w_bl ?_
  | with_reducible refine w_op ?_
  | with_reducible refine w_nil ?_
  | with_reducible refine w_cons ?_
  | with_reducible refine w_cb ?_
  | with_reducible refine w_I0 ?_
  | with_reducible refine w_lst ?_
  | with_reducible refine w_tup ?_
  | with_reducible refine w_sl ?_
  | with_reducible refine w_noPart ?_
  | with_reducible refine w_part ?_
  | with_reducible refine w_int ?_
  | with_reducible refine w_par ?_
  | with_reducible refine w_two ?_
  | with_reducible refine w_par3 ?_
  | with_reducible refine w_three ?_
  | with_reducible refine w_ret ?_
  | with_reducible refine w_drop ?_
  | with_reducible refine w_chain ?_
  | with_reducible refine w_and ?_
  | with_reducible refine w_or ?_
  | with_reducible refine w_not ?_
  | with_reducible refine w_notV ?_
  | with_reducible refine w_andV ?_
  | with_reducible refine w_orV ?_
  | with_reducible refine w_int1 ?_
  | with_reducible refine w_true ?_
  | with_reducible refine w_false ?_
  | with_reducible refine w_for ?_
  | with_reducible refine w_rng1 ?_
  | with_reducible refine w_rng2 ?_
  | with_reducible refine w_iList ?_
  | with_reducible refine w_iTup ?_
  | with_reducible refine w_dget ?_
  | with_reducible refine w_din ?_
  | with_reducible refine w_dnotin ?_
  | with_reducible refine w_dput ?_
  | with_reducible refine w_dget2 ?_
  | with_reducible refine w_fld ?_
  | with_reducible refine w_dnew ?_
  | with_reducible refine w_lc ?_
  | with_reducible refine w_dc ?_
  | with_reducible refine w_iStr ?_
  | with_reducible refine w_str ?_
  | with_reducible refine w_iEnum ?_
  | with_reducible refine w_iZip ?_
  | with_reducible refine w_yes ?_
  | with_reducible refine w_gtup ?_
  | with_reducible refine w_gcons ?_
  | with_reducible refine w_rcons ?_
  | with_reducible refine w_gnil ?_
  | with_reducible refine w_leS ?_
  | with_reducible refine w_isN ?_
  | with_reducible refine w_notN ?_
  | with_reducible refine w_call ?_
  | with_reducible refine w_meth ?_
  | with_reducible refine w_bm ?_
  | with_reducible refine w_bm0 ?_
  | with_reducible refine isi_int ?_
  | with_reducible refine isi_bl_int ?_
  | with_reducible refine isi_int_bl ?_
  | with_reducible refine isi_bl ?_
  | with_reducible refine isi_str ?_
  | with_reducible refine isi_non_dict ?_
  | with_reducible refine isi_int_dict ?_
  | with_reducible refine w_ntrue ?_
  | with_reducible refine w_nfalse ?_
  | with_reducible refine w_wt ?_
  | with_reducible refine w_starD ?_
  | with_reducible refine w_starT ?_
  | with_reducible refine w_listVals ?_
  | with_reducible refine w_iEnumT ?_
  | with_reducible refine w_iEnumS ?_
  | with_reducible refine w_enumS ?_
  | with_reducible refine w_frz ?_
  | with_reducible refine w_iItems ?_
  | with_reducible refine w_iKeys ?_
  | with_reducible refine w_iVals ?_
  | with_reducible refine w_strS ?_
  | with_reducible refine w_daug ?_
  | with_reducible refine w_rAdd ?_
  | with_reducible refine w_sfld ?_
  | ((with_reducible refine' w_var ?wsd ?_); (case wsd => first | rfl | assumption))
  | ((with_reducible refine' w_eq ?wsd ?_); (case wsd => rfl))
  | ((with_reducible refine' w_ne ?wsd ?_); (case wsd => rfl))
  | ((with_reducible refine' w_lenL ?wsd ?_); (case wsd => walk_at "sq"))
  | ((with_reducible refine' w_lenT ?wsd ?_); (case wsd => walk_at "sq"))
  | ((with_reducible refine' w_itL ?wsd ?_); (case wsd => walk_at "sq"))
  | ((with_reducible refine' w_itT ?wsd ?_); (case wsd => walk_at "sq"))
  | ((with_reducible refine' w_rng1v ?wsd ?_); (case wsd => omega))
  | ((with_reducible refine' w_rng2v ?wsd ?_); (case wsd => omega))
  | ((with_reducible refine' w_I ?wsd ?_); (case wsd => walk_at "side"))
  | ((with_reducible refine' w_dtrue ?wsd ?_); (case wsd => first | assumption | omega | rfl | decide))
  | ((with_reducible refine' w_dfalse ?wsd ?_); (case wsd => first | assumption | omega | decide))
  | ((with_reducible refine' w_ndtrue ?wsd ?_); (case wsd => first | assumption | omega | rfl | decide))
  | ((with_reducible refine' w_ndfalse ?wsd ?_); (case wsd => first | assumption | omega | decide))
  | ((with_reducible refine' w_stD ?wsd ?_); (case wsd => walk_at "hp"))
  | ((with_reducible refine' w_stT ?wsd ?_); (case wsd => walk_at "sq"))
  | ((with_reducible refine' w_stL ?wsd ?_); (case wsd => walk_at "sq"))
  | ((with_reducible refine' w_isD ?wsd ?_); (case wsd => walk_at "hp"))
  | ((with_reducible refine' isi_tup ?wsd ?_); (case wsd => walk_at "sq"))
  | ((with_reducible refine' isi_dict ?wsd ?_); (case wsd => walk_at "hp"))
  | ((with_reducible refine' w_lenDv ?wsd ?_); (case wsd => walk_at "hp"))
  | ((with_reducible refine' w_enum ?wsd ?_); (case wsd => walk_at "sq"))
  | ((with_reducible refine' w_enumT ?wsd ?_); (case wsd => walk_at "sq"))
  | ((with_reducible refine' w_tyL ?wsd ?_); (case wsd => walk_at "sq")))
local macro_rules | `(tactic| walk_at "side") => `(tactic| first | omega | decide | (constructor <;> omega) | (constructor <;> decide) | (simp only [List.length_map, List.length_append, List.length_cons, List.length_nil, CDivN, CMul, CPow]; first | omega | decide | (constructor <;> omega)))
local macro_rules | `(tactic| walk_at "w") => `(tactic| repeat (walk_at "w1"))
def spLawIsQuick (K : PySem.W.Frag) : Sp := fun vs H Q _ => ∃ (d : Addr) (N : NetD), vs = [.ref d] ∧ KnotsAt K H d N ∧ N.Ok ∧ ∀ (b : Bool) H', Same H H' → Q (.bl b) H'
abbrev N_law_is_quick : List Str := ["_law_knots_here", "_law_start", "_law_last", "_law_standing", "_law_many", "_law_waits", "_law_name", "_law_waiting_here"]
theorem sc_law_is_quick : FnScope N_law_is_quick ["_law_knots_here"] (defScope s_law_is_quick) := ⟨rfl, rfl, rfl, by decide +kernel, rfl, by decide +kernel, by decide +kernel⟩
def WD (N : NetD) (H : Hp) (q : Addr) : Prop := ∃ ws w0, H q = some (DI ws fun k => ((w0 : Str → Nat) k : Int)) ∧ ws.Nodup ∧ ∀ k ∈ ws, k ∈ N.names
theorem WD.same {N : NetD} {H H' : Hp} {q : Addr} (e : Same H H') (h : WD N H q) : WD N H' q := by
  obtain ⟨ws, w0, h1, h2⟩ := h
  exact ⟨ws, w0, e _ _ h1, h2⟩
section
variable {P : Program} {w : World} {K : PySem.W.Frag} {mg : Str → Option Value} {base : Heap}
theorem ok_law_is_quick (T : TX K mg) : Fok P w K mg base CX0 2 (He.ga K "_law_is_quick") ["_law_knots_here"] [] (spLawIsQuick K) := by
  obtain ⟨fd, F⟩ := T.fn_law_is_quick
  refine ⟨⟨fd, [], ?_, F.bindsN fun _ _ _ _ _ _ us hl => match us, hl with | [_], _ => rfl, .nil⟩, F.kp⟩
  refine F.ok sc_law_is_quick (fun vs H Q E h => ?_) (fun cdv A outer s H vs Q E hr h => ?_)
  · obtain ⟨_, _, rfl, _⟩ := h
    rfl
  obtain ⟨d, N, rfl, hkn, hok, k⟩ := h
  have hu := hu_of hr
  have hln := hok.len
  have O_law_rounds_for := @ok_law_rounds_for P w K mg base T
  obtain ⟨ka, hka, hkk⟩ := id hkn
  refine ssx_nox ?_
  refine ssx_cons (ps_set (i := 1) sc_law_is_quick.nd rfl (Or.inl rfl) (pe_callTy (q_dictP K rfl) rfl T.f_dict bt_dict (pa_cons (pe_lc (own := [("_law_name", 6)]) rfl sc_law_is_quick.nd (qi_list K (pe_callB (q_sortS K) rfl T.f_sorted bb_sorted (pa_cons (pe_callTy (k_listD rfl) rfl T.f_list bt_list (pa_cons (pv 0) pa_nil)) pa_nil))) (blkOk_by (N := N_law_is_quick) (sc := defScope s_law_is_quick) (by decide +kernel)) (fun _ _ _ _ _ => (pg_name (i := 6) sc_law_is_quick.nd rfl (Or.inl rfl))) (fun _ _ _ _ _ => pts_nil) (fun _ _ _ _ _ => (pe_tup (pa_cons (pv 6) (pa_cons pe_int pa_nil))))) pa_nil))) ?_
  walk_at "w"
  refine w_listD hka fun l1 H1 hl1 s1 h1 => ?_
  walk_at "w"
  refine w_sortS (ks := N.names) (xs := N.names) (sqL h1) (by omega) (List.Perm.refl _) (names_sorted hok) fun l2 H2 hl2 s2 h2 => ?_
  walk_at "w"
  refine rlcP (walk_list (xs := N.names.map V.str)) N.names (fun _ => .int 0) (by rw [List.length_map]) (by rw [List.length_map]; omega) (fun H' s' => sqL (s' _ _ h2)) ?_ ?_
  · rintro i y _ H3 k hi hk s3 ⟨rfl, hx⟩ KT KF hKT
    obtain ⟨y', e1, rfl⟩ := map_get hx
    rw [hk] at e1; cases e1
    walk_at "w"
    refine ⟨rfl, ?_⟩
    walk_at "w"
    refine w_newT (by simp) fun q H4 hq s4 h4 => ?_
    exact hKT _ _ s4 h4
  intro D qs H3 hD s3 h3D hP3
  walk_at "w"
  refine w_dictPs (sqL h3D) (paired_imp hP3 fun _ _ e => sqT e) hok.nodup fun st H4 hst s4 h4 => ?_
  walk_at "w"
  have s04 := s1.trans (s2.trans (s3.trans s4))
  have h4s : H4 st = some (DI N.names fun k => (((fun _ => 0) : Str → Nat) k : Int)) := h4
  clear h4 hP3 h3D s4 s3 hD h2 s2 hl2 h1 s1 hl1 hst
  refine ssx_cons (ps_set (i := 2) sc_law_is_quick.nd rfl (Or.inl rfl) (pe_callTy (q_dictP K rfl) rfl T.f_dict bt_dict (pa_cons (pe_lc (own := [("_law_name", 6)]) rfl sc_law_is_quick.nd (qi_list K (pe_callB (q_sortS K) rfl T.f_sorted bb_sorted (pa_cons (pe_callTy (k_listD rfl) rfl T.f_list bt_list (pa_cons (pv 0) pa_nil)) pa_nil))) (blkOk_by (N := N_law_is_quick) (sc := defScope s_law_is_quick) (by decide +kernel)) (fun _ _ _ _ _ => (pg_name (i := 6) sc_law_is_quick.nd rfl (Or.inl rfl))) (fun _ _ _ _ _ => pts_nil) (fun _ _ _ _ _ => (pe_tup (pa_cons (pv 6) (pa_cons (pe_op op_sub (pe_op op_add (pe_callB (q_len K) rfl T.f_len bb_len (pa_cons (pe_ix (q_ixT K) (pe_dget hu (pv 0) (pv 6) (fun _ _ => rfl)) pe_int (fun _ _ => rfl)) pa_nil)) (pe_callB (q_len K) rfl T.f_len bb_len (pa_cons (pe_ix (q_ixT K) (pe_dget hu (pv 0) (pv 6) (fun _ _ => rfl)) pe_int (fun _ _ => rfl)) pa_nil))) pe_int) pa_nil))))) pa_nil))) ?_
  walk_at "w"
  refine w_listD (s04 _ _ hka) fun l1 H5 hl1 s5 h5 => ?_
  walk_at "w"
  refine w_sortS (ks := N.names) (xs := N.names) (sqL h5) (by omega) (List.Perm.refl _) (names_sorted hok) fun l2 H6 hl2 s6 h6 => ?_
  walk_at "w"
  have s06 := s04.trans (s5.trans s6)
  refine rlcP (walk_list (xs := N.names.map V.str)) N.names (fun k => .int ((N.len k - 1 : Nat) : Int)) (by rw [List.length_map]) (by rw [List.length_map]; omega) (fun H' s' => sqL (s' _ _ h6)) ?_ ?_
  · rintro i y _ H3 k hi hk s3 ⟨rfl, hx⟩ KT KF hKT
    obtain ⟨y', e1, rfl⟩ := map_get hx
    rw [hk] at e1; cases e1
    have hkn' := List.mem_of_getElem? hk
    walk_at "w"
    refine ⟨rfl, ?_⟩
    walk_at "w"
    have s03 := s06.trans s3
    obtain ⟨kv, fa, ta, k1, k2, ⟨fs, f1, f2⟩, ⟨ds, t1, t2⟩⟩ := NetAt.knot (hkn.same s03) hkn'
    have hfs := paired_len f2
    have hds := paired_len t2
    have htl := hok.tl k hkn'
    have hlen : N.len k = (N.fr k).length + (N.tn k).length := by unfold NetD.len NetD.rows; rw [List.length_append]
    refine w_getK k1 hkn' ?_
    walk_at "w"
    refine w_ixT (v := .ref fa) k2 rfl ?_
    walk_at "w"
    refine w_getK k1 hkn' ?_
    walk_at "w"
    refine w_ixT (v := .ref ta) k2 rfl ?_
    walk_at "w"
    refine w_newT (by simp) fun q H4 hq s4 h4 => ?_
    refine hKT _ _ s4 ?_
    rw [h4, show ((fs.map V.ref).length : Int) + ((ds.map V.ref).length : Int) - 1 = ((N.len k - 1 : Nat) : Int) by rw [List.length_map, List.length_map]; omega]
  intro D qs H7 hD s7 h7D hP7
  walk_at "w"
  refine w_dictPs (sqL h7D) (paired_imp hP7 fun _ _ e => sqT e) hok.nodup fun la H8 hla s8 h8 => ?_
  walk_at "w"
  have s48 := s5.trans (s6.trans (s7.trans s8))
  have s08 := s04.trans s48
  have h8s := s48 _ _ h4s
  have h8l : H8 la = some (DI N.names fun k => (((fun k => N.len k - 1) : Str → Nat) k : Int)) := h8
  clear h8 hP7 h7D s8 s7 hD h6 s6 hl2 h5 s5 hl1 hla s48 h4s s04 s06
  refine ssx_cons (ps_for PassesOwn.never rfl (qi_tup K (pe_tup (pa_cons (pv 1) (pa_cons (pv 2) pa_nil)))) (pg_name (i := 3) sc_law_is_quick.nd rfl (Or.inr rfl)) SSX.ps) ?_
  walk_at "w"
  refine w_newT (by simp) fun tp H9 htp s9 h9 => ?_
  walk_at "w"
  have s09 := s08.trans s9
  have h9s := s9 _ _ h8s
  have h9l := s9 _ _ h8l
  clear s9 h8s h8l s08
  refine for_tup (xs := [V.ref st, V.ref la]) (fun i σ HA => (∃ o3 o4 o5, σ = [some (.ref d), some (.ref st), some (.ref la), o3, o4, o5, none, none]) ∧ Same H9 HA) ⟨⟨_, _, _, rfl⟩, Same.refl _⟩ (fun i σ HA _ p => sqT (p.2 _ _ h9)) ?_ ?_
  · rintro i x σ HA hx ⟨⟨o3, o4, o5, rfl⟩, sA⟩
    obtain ⟨sd, p0, rfl, hsd⟩ : ∃ (sd : Addr) (p0 : Str → Nat), x = .ref sd ∧ H9 sd = some (DI N.names fun k => (p0 k : Int)) := by
      have hm := List.mem_of_getElem? hx
      simp only [List.mem_cons, List.not_mem_nil, or_false] at hm
      rcases hm with rfl | rfl
      · exact ⟨st, _, rfl, h9s⟩
      · exact ⟨la, _, rfl, h9l⟩
    walk_at "w"
    refine ssx_cons (ps_for PassesOwn.never rfl (qi_tup K (pe_tup (pa_cons pe_int (pa_cons pe_int (pa_cons (pe_op op_pow pe_int pe_int) pa_nil))))) (pg_name (i := 4) sc_law_is_quick.nd rfl (Or.inr rfl)) SSX.ps) ?_
    walk_at "w"
    refine w_newT (by simp) fun tm HB htm sB hB => ?_
    walk_at "w"
    refine for_tup (xs := _) (fun i σ HC => (∃ o4 o5, σ = [some (.ref d), some (.ref st), some (.ref la), some (.ref sd), o4, o5, none, none]) ∧ Same HB HC) ⟨⟨_, _, rfl⟩, Same.refl _⟩ (fun i σ HC _ p => sqT (p.2 _ _ hB)) ?_ ?_
    · rintro i x σ HC hx ⟨⟨o4, o5, rfl⟩, sC⟩
      obtain ⟨m, rfl⟩ : ∃ m : Nat, x = .int (m : Int) := by
        have hm := List.mem_of_getElem? hx
        simp only [List.mem_cons, List.not_mem_nil, or_false] at hm
        rcases hm with rfl | rfl | rfl
        · exact ⟨1, rfl⟩
        · exact ⟨200, rfl⟩
        · exact ⟨10 ^ 34, by rfl⟩
      walk_at "w"
      have s9C := sA.trans (sB.trans sC)
      have s0C := s09.trans s9C
      refine ssx_cons (ps_set (i := 5) sc_law_is_quick.nd rfl (Or.inl rfl) (pe_op op_cat (pe_lc (own := [("_law_name", 6)]) rfl sc_law_is_quick.nd (qi_list K (pe_callB (q_sortS K) rfl T.f_sorted bb_sorted (pa_cons (pe_callTy (k_listD rfl) rfl T.f_list bt_list (pa_cons (pv 0) pa_nil)) pa_nil))) (blkOk_by (N := N_law_is_quick) (sc := defScope s_law_is_quick) (by decide +kernel)) (fun _ _ _ _ _ => (pg_name (i := 6) sc_law_is_quick.nd rfl (Or.inl rfl))) (fun _ _ _ _ _ => pts_nil) (fun _ _ _ _ _ => (pe_disp (pps_cons (pv 6) (pv 4) pps_nil) rfl rfl (fun z => by cases z) (by decide)))) (pe_lst (pa_cons (pe_callTy (q_dictP K rfl) rfl T.f_dict bt_dict (pa_cons (pe_lc (own := [("_law_name", 6)]) rfl sc_law_is_quick.nd (qi_list K (pe_callB (q_sortS K) rfl T.f_sorted bb_sorted (pa_cons (pe_callTy (k_listD rfl) rfl T.f_list bt_list (pa_cons (pv 0) pa_nil)) pa_nil))) (blkOk_by (N := N_law_is_quick) (sc := defScope s_law_is_quick) (by decide +kernel)) (fun _ _ _ _ _ => (pg_name (i := 6) sc_law_is_quick.nd rfl (Or.inl rfl))) (fun _ _ _ _ _ => pts_nil) (fun _ _ _ _ _ => (pe_tup (pa_cons (pv 6) (pa_cons (pv 4) pa_nil))))) pa_nil)) pa_nil)))) ?_
      walk_at "w"
      refine w_listD (s0C _ _ hka) fun l1 H1 hl1 s1 h1 => ?_
      walk_at "w"
      refine w_sortS (ks := N.names) (xs := N.names) (sqL h1) (by omega) (List.Perm.refl _) (names_sorted hok) fun l2 H2 hl2 s2 h2 => ?_
      walk_at "w"
      refine rlc (walk_list (xs := N.names.map V.str)) (fun D i acc H3 => ∃ qs : List Addr, acc = qs.map V.ref ∧ qs.length ≤ i ∧ D ∉ qs ∧ ∀ q ∈ qs, WD N H3 q) (by rw [List.length_map]; omega) (fun H' s' => sqL (s' _ _ h2)) (fun D H3 _ _ _ => ⟨[], rfl, by simp, by simp, by simp⟩) ?_ ?_ ?_
      · rintro D i acc H3 H4 ⟨qs, rfl, hlq, hD, hW⟩ hk
        refine ⟨qs, rfl, hlq, hD, fun q hq => ?_⟩
        obtain ⟨ws, w0, e1, e2⟩ := hW q hq
        exact ⟨ws, w0, hk _ _ (fun z => hD (z ▸ hq)) e1, e2⟩
      · rintro D i acc x _ H3 hi _ hD h3D s3 ⟨qs, rfl, hlq, hDq, hW⟩ ⟨rfl, hx⟩ KT KF hKT _
        obtain ⟨y, hy, rfl⟩ := map_get hx
        have hyn := List.mem_of_getElem? hy
        walk_at "w"
        refine ⟨rfl, ?_⟩
        walk_at "w"
        intro r hr0
        have s4 : Same H3 (upd H3 r (.dK [])) := Same.alloc hr0
        have h4 : (upd H3 r (.dK [])) r = some (.dK []) := upd_same
        generalize upd H3 r (.dK []) = H4 at *
        refine w_var rfl (w_var rfl ?_)
        refine ⟨h4, [((Sum.inr y : Key), V.int (m : Int))], rfl, by simp, ?_⟩
        have s5 : Same H3 (upd H4 r (.dK (mergeK [] [((Sum.inr y : Key), V.int (m : Int))]))) := Same.mut s4 hr0
        refine hKT _ _ s5 ⟨qs ++ [r], by simp, by rw [List.length_append]; simp; omega, ?_, fun q hq => ?_⟩
        · intro z
          rcases List.mem_append.mp z with z | z
          · exact hDq z
          · rw [List.mem_singleton.mp z] at h3D; rw [h3D] at hr0; cases hr0
        · rcases List.mem_append.mp hq with z | z
          · exact (hW q z).same s5
          · rw [List.mem_singleton.mp z]
            refine ⟨[y], fun _ => m, ?_, by simp, by simpa using hyn⟩
            rw [upd_same, show [((Sum.inr y : Key), V.int (m : Int))] = mapK [y] fun _ => V.int (m : Int) from rfl, merge_new _ _ (by simp)]
      · rintro D1 acc H3 hD1 s3 h3 _ ⟨qs, rfl, hlq, hD1q, hW⟩
        rw [List.length_map] at hlq
        walk_at "w"
        have s03 := s0C.trans (s1.trans (s2.trans s3))
        refine w_listD (s03 _ _ hka) fun l4 H4 hl4 s4 h4 => ?_
        walk_at "w"
        refine w_sortS (ks := N.names) (xs := N.names) (sqL h4) (by omega) (List.Perm.refl _) (names_sorted hok) fun l5 H5 hl5 s5 h5 => ?_
        walk_at "w"
        refine rlcP (walk_list (xs := N.names.map V.str)) N.names (fun _ => .int (m : Int)) (by rw [List.length_map]) (by rw [List.length_map]; omega) (fun H' s' => sqL (s' _ _ h5)) ?_ ?_
        · rintro i y _ H6 k hi hk s6 ⟨rfl, hx⟩ KT KF hKT
          obtain ⟨y', e1, rfl⟩ := map_get hx
          rw [hk] at e1; cases e1
          walk_at "w"
          refine ⟨rfl, ?_⟩
          walk_at "w"
          refine w_newT (by simp) fun q H7 hq s7 h7 => ?_
          exact hKT _ _ s7 h7
        intro D2 qs2 H6 hD2 s6 h6D hP6
        walk_at "w"
        refine w_dictPs (sqL h6D) (paired_imp hP6 fun _ _ e => sqT e) hok.nodup fun al H7 hal s7 h7 => ?_
        walk_at "w"
        refine w_newL (by simp) fun l8 H8 hl8 s8 h8 => ?_
        have s38 := s4.trans (s5.trans (s6.trans (s7.trans s8)))
        refine ⟨D1, l8, _, _, rfl, rfl, s38 _ _ h3, h8, sz (by simp only [List.length_map, List.length_cons, List.length_nil]; omega), fun l9 hl9 => ?_⟩
        have s9 : Same H8 (upd H8 l9 (.lst (qs.map V.ref ++ [.ref al]))) := Same.alloc hl9
        have h9w : (upd H8 l9 (.lst (qs.map V.ref ++ [.ref al]))) l9 = some (.lst ((qs ++ [al]).map V.ref)) := by rw [upd_same, List.map_append]; rfl
        have hW9 : ∀ q ∈ qs ++ [al], WD N (upd H8 l9 (.lst (qs.map V.ref ++ [.ref al]))) q := fun q hq => by
          rcases List.mem_append.mp hq with z | z
          · exact (hW q z).same (s38.trans s9)
          · rw [List.mem_singleton.mp z]
            exact WD.same (s8.trans s9) ⟨N.names, fun _ => m, h7, hok.nodup, fun _ h => h⟩
        have s09' := s03.trans (s38.trans s9)
        have s9' := s9C.trans (s1.trans (s2.trans (s3.trans (s38.trans s9))))
        have sB' := sC.trans (s1.trans (s2.trans (s3.trans (s38.trans s9))))
        have hql : (qs ++ [al]).length ≤ 5 := by rw [List.length_append]; simp; omega
        generalize upd H8 l9 (.lst (qs.map V.ref ++ [.ref al])) = HF at *
        generalize qs ++ [al] = qq at *
        walk_at "w"
        refine ssx_cons (ps_if (pt_val (pe_callB (q_any K rfl) rfl T.f_any bb_any (pa_cons (pe_lc (own := [("_law_waiting_here", 7)]) rfl sc_law_is_quick.nd (qi_list K (pv 5)) (blkOk_by (N := N_law_is_quick) (sc := defScope s_law_is_quick) (by decide +kernel)) (fun _ _ _ _ _ => (pg_name (i := 7) sc_law_is_quick.nd rfl (Or.inl rfl))) (fun _ _ _ _ _ => pts_nil) (fun _ _ _ _ _ => (pe_cmpR k_isN (pe_callF O_law_rounds_for (hr.mono (by decide)) rfl T.g__law_rounds_for pass0 (pa_cons (pv 0) (pa_cons (pv 3) (pa_cons (pv 7) (pa_cons pe_int pa_nil))))) pe_non (nomark _)))) pa_nil))) SSX.ps SSX.ps) ?_
        walk_at "w"
        refine rlcV (walk_list (xs := qq.map V.ref)) (fun i acc => ∃ bs : List Bool, acc = bs.map V.bl) (by rw [List.length_map]; omega) (fun H' s' => sqL (s' _ _ h9w)) ⟨[], rfl⟩ ?_ ?_
        · rintro i acc x _ HG hi _ sG ⟨bs, rfl⟩ ⟨rfl, hx⟩ KT KF hKT _
          obtain ⟨q, hq, rfl⟩ := map_get hx
          obtain ⟨ws, w0, e1, e2, e3⟩ := (hW9 q (List.mem_of_getElem? hq)).same sG
          walk_at "w"
          refine ⟨rfl, ?_⟩
          walk_at "w"
          refine ⟨d, sd, q, 2000, N, p0, w0, ws, rfl, by omega, hkn.same (s09'.trans sG), hok, (s9'.trans sG) _ _ hsd, e1, e2, e3, fun v H' s' hv => ?_⟩
          walk_at "w"
          exact hKT _ _ s' ⟨bs ++ [_], by rw [List.map_append]; rfl⟩
        · rintro D acc HG hD sG hG _ ⟨bs, rfl⟩
          walk_at "w"
          refine w_any (sqL hG) ?_
          walk_at "w"
          refine w_both (fun _ => ?_) fun _ => ?_
          · refine ssx_cons (ps_ret pe_bl) ?_
            walk_at "w"
            exact k _ _ (s09'.trans sG)
          · exact ssx_nil (ssx_nil ⟨⟨_, _, rfl⟩, sB'.trans sG⟩)
    · rintro σ HC ⟨⟨o4, o5, rfl⟩, sC⟩
      exact ssx_nil ⟨⟨_, _, _, rfl⟩, sA.trans (sB.trans sC)⟩
  · rintro σ HA ⟨⟨o3, o4, o5, rfl⟩, sA⟩
    refine ssx_cons (ps_ret pe_bl) ?_
    walk_at "w"
    exact k _ _ (s09.trans sA)
end
end K1
namespace K1
open PySem PySem.Spec L2
open PyProof.Rows hiding St
def tCallSD (sp : Sp) (dvs : List V) (E : L2.St → XK) (t : TA) : TE := fun σ H Q => t σ H fun vs H1 => sp (vs ++ dvs) H1 Q (E σ)
theorem w_callSD {sp : Sp} {dvs : List V} {E : L2.St → XK} {t : TA} {σ : L2.St} {H : Hp} {Q : VK} (h : t σ H fun vs H1 => sp (vs ++ dvs) H1 Q (E σ)) : tCallSD sp dvs E t σ H Q := h
section
variable {X : Cx} {CX : CXT} {k : Nat} {f : Addr} {ps : List Str} {dvs : List V} {sp : Sp} {E : L2.St → XK} {x : Str} {p pos : Pos} {e : Expr} {es : List Expr} {t : TA}
theorem pe_callFS (F : Fok X.prog X.w X.K X.mg X.base CX k f ps dvs sp) (hr : Room k X.A) (hg : Gl X x) (hm : X.mg x = some (.ref f)) (hx : ∀ σ, PassesAt CX X σ (E σ)) (ha : PA X (e :: es) t)
    (hdb : (x == ("__debug__" : Str)) = false := by decide) (he : starEach (e :: es) X.env = (false, eval e X.env) :: starEach es X.env := by rfl) (hpl : (backTo pos (starEach es X.env)).any (·.1) = false := by rfl) :
    PE X (.Call (.Name x p) (e :: es) [] pos) (tCallSD sp dvs E t) := by
  obtain ⟨fd, ds, F1, hb, hd⟩ := F.ex
  refine ⟨fun pins s σ H Q I h => ?_⟩
  refine wpAny_Call_Name_kw (ld_glob I hg hm ?_ hdb)
  refine PySem.W.callWith_K (h₀ := X.base) I.ok.mod.kin F.kp (thn (ha.run pos pins s σ H _ I h) fun us s1 ⟨vs, H1, I1, r, q⟩ => ⟨I1.kIn, ?_⟩) he hpl
  have r2 : Vals (vs ++ dvs) (us ++ ds) := r.append hd
  have hl : (us ++ ds).length = ps.length := by rw [← r2.length]; exact F1.len _ _ _ _ q
  refine wpAny_call (codeAny_mono (F1.run X.A X.stack s1 H1 ⟨us, []⟩ (us ++ ds) (vs ++ dvs) Q (E σ) hr I1.env0 (hb s1 us I1.kIn hl) r2 q) fun r s' z => ?_)
  cases r with
  | error u => exact hx σ pins H1 s1 u s' I1 z
  | ok fl =>
    cases fl with
    | ret u => exact I1.after z
    | next => exact False.elim z
    | brk => exact False.elim z
    | cont => exact False.elim z
end
end K1
namespace K1
open PySem PySem.Spec L2
open PyProof.Rows hiding St
local macro_rules | `(tactic| walk_at "hp") => `(tactic| first | assumption | exact upd_same)
local macro_rules | `(tactic| walk_at "sq") => `(tactic| first | assumption | exact sqL (by assumption) | exact sqT (by assumption))
local macro_rules | `(tactic| walk_at "w1") => `(tactic| first
  | with_reducible refine w_asg ?_
  | with_reducible refine w_c ?_
  | with_reducible refine w_gname ?_
  | with_reducible refine w_if ?_
  | with_reducible refine w_ifs ?_
  | with_reducible refine w_test ?_
  | with_reducible refine w_tB ?_
  | with_reducible refine w_bl ?_
  | with_reducible refine w_op ?_
  | with_reducible refine w_nil ?_
  | with_reducible refine w_cons ?_
  | with_reducible refine w_cb ?_
  | with_reducible refine w_I0 ?_
  | with_reducible refine w_lst ?_
  | with_reducible refine w_tup ?_
  | with_reducible refine w_sl ?_
  | with_reducible refine w_noPart ?_
  | with_reducible refine w_part ?_
  | with_reducible refine w_int ?_
  | with_reducible refine w_par ?_
  | with_reducible refine w_two ?_
  | with_reducible refine w_par3 ?_
  | with_reducible refine w_three ?_
  | with_reducible refine w_ret ?_
  | with_reducible refine w_drop ?_
  | with_reducible refine w_chain ?_
  | with_reducible refine w_and ?_
  | with_reducible refine w_or ?_
  | with_reducible refine w_not ?_
  | with_reducible refine w_notV ?_
  | with_reducible refine w_andV ?_
  | with_reducible refine w_orV ?_
  | with_reducible refine w_int1 ?_
  | with_reducible refine w_true ?_
  | with_reducible refine w_false ?_
  | with_reducible refine w_for ?_
  | with_reducible refine w_rng1 ?_
  | with_reducible refine w_rng2 ?_
  | with_reducible refine w_iList ?_
  | with_reducible refine w_iTup ?_
  | with_reducible refine w_dget ?_
  | with_reducible refine w_din ?_
  | with_reducible refine w_dnotin ?_
  | with_reducible refine w_dput ?_
  | with_reducible refine w_dget2 ?_
  | with_reducible refine w_fld ?_
  | with_reducible refine w_dnew ?_
  | with_reducible refine w_lc ?_
  | with_reducible refine w_dc ?_
  | with_reducible refine w_iStr ?_
  | with_reducible refine w_str ?_
  | with_reducible refine w_iEnum ?_
  | with_reducible refine w_iZip ?_
  | with_reducible refine w_yes ?_
  | with_reducible refine w_gtup ?_
  | with_reducible refine w_gcons ?_
  | with_reducible refine w_rcons ?_
  | with_reducible refine w_gnil ?_
  | with_reducible refine w_leS ?_
  | with_reducible refine w_isN ?_
  | with_reducible refine w_notN ?_
  | with_reducible refine w_call ?_
  | with_reducible refine w_meth ?_
  | with_reducible refine w_bm ?_
  | with_reducible refine w_bm0 ?_
  | with_reducible refine isi_int ?_
  | with_reducible refine isi_bl_int ?_
  | with_reducible refine isi_int_bl ?_
  | with_reducible refine isi_bl ?_
  | with_reducible refine isi_str ?_
  | with_reducible refine isi_non_dict ?_
  | with_reducible refine isi_int_dict ?_
  | with_reducible refine w_ntrue ?_
  | with_reducible refine w_nfalse ?_
  | with_reducible refine w_wt ?_
  | with_reducible refine w_starD ?_
  | with_reducible refine w_starT ?_
  | with_reducible refine w_listVals ?_
  | with_reducible refine w_iEnumT ?_
  | with_reducible refine w_iEnumS ?_
  | with_reducible refine w_enumS ?_
  | with_reducible refine w_frz ?_
  | with_reducible refine w_iItems ?_
  | with_reducible refine w_iKeys ?_
  | with_reducible refine w_iVals ?_
  | with_reducible refine w_strS ?_
  | with_reducible refine w_daug ?_
  | with_reducible refine w_rAdd ?_
  | with_reducible refine w_sfld ?_
  | ((with_reducible refine' w_var ?wsd ?_); (case wsd => first | rfl | assumption))
  | ((with_reducible refine' w_eq ?wsd ?_); (case wsd => rfl))
  | ((with_reducible refine' w_ne ?wsd ?_); (case wsd => rfl))
  | ((with_reducible refine' w_lenL ?wsd ?_); (case wsd => walk_at "sq"))
  | ((with_reducible refine' w_lenT ?wsd ?_); (case wsd => walk_at "sq"))
  | ((with_reducible refine' w_itL ?wsd ?_); (case wsd => walk_at "sq"))
  | ((with_reducible refine' w_itT ?wsd ?_); (case wsd => walk_at "sq"))
  | ((with_reducible refine' w_rng1v ?wsd ?_); (case wsd => omega))
  | ((with_reducible refine' w_rng2v ?wsd ?_); (case wsd => omega))
  | ((with_reducible refine' w_I ?wsd ?_); (case wsd => walk_at "side"))
  | ((with_reducible refine' w_dtrue ?wsd ?_); (case wsd => first | assumption | omega | rfl | decide))
  | ((with_reducible refine' w_dfalse ?wsd ?_); (case wsd => first | assumption | omega | decide))
  | ((with_reducible refine' w_ndtrue ?wsd ?_); (case wsd => first | assumption | omega | rfl | decide))
  | ((with_reducible refine' w_ndfalse ?wsd ?_); (case wsd => first | assumption | omega | decide))
  | ((with_reducible refine' w_stD ?wsd ?_); (case wsd => walk_at "hp"))
  | ((with_reducible refine' w_stT ?wsd ?_); (case wsd => walk_at "sq"))
  | ((with_reducible refine' w_stL ?wsd ?_); (case wsd => walk_at "sq"))
  | ((with_reducible refine' w_isD ?wsd ?_); (case wsd => walk_at "hp"))
  | ((with_reducible refine' isi_tup ?wsd ?_); (case wsd => walk_at "sq"))
  | ((with_reducible refine' isi_dict ?wsd ?_); (case wsd => walk_at "hp"))
  | ((with_reducible refine' w_lenDv ?wsd ?_); (case wsd => walk_at "hp"))
  | ((with_reducible refine' w_enum ?wsd ?_); (case wsd => walk_at "sq"))
  | ((with_reducible refine' w_enumT ?wsd ?_); (case wsd => walk_at "sq"))
  | ((with_reducible refine' w_tyL ?wsd ?_); (case wsd => walk_at "sq")))
local macro_rules | `(tactic| walk_at "side") => `(tactic| first | omega | decide | (constructor <;> omega) | (constructor <;> decide) | (simp only [List.length_map, List.length_append, List.length_cons, List.length_nil, CDivN, CMul, CPow]; first | omega | decide | (constructor <;> omega)))
local macro_rules | `(tactic| walk_at "w") => `(tactic| repeat (walk_at "w1"))
def spLawRefuses (K : PySem.W.Frag) : Sp := fun vs H Q _ => ∃ (p d : Addr) (N : NetD), vs = [.ref p, .ref d] ∧ NetAt K H p N ∧ N.Ok ∧ N.Ends ∧ KnotsAt K H d N ∧ ∀ H', Same H H' → Q (.bl true) H'
abbrev N_law_refuses : List Str := ["_law_net", "_law_knots_here", "_law_bad", "_law_name"]
theorem sc_law_refuses : FnScope N_law_refuses ["_law_net", "_law_knots_here"] (defScope s_law_refuses) := ⟨rfl, rfl, rfl, by decide +kernel, rfl, by decide +kernel, by decide +kernel⟩
theorem merge_one (k : Str) (v : V) : mergeK [] [((Sum.inr k : Key), v)] = mapK [k] fun _ => v := by
  rw [show [((Sum.inr k : Key), v)] = mapK [k] fun _ => v from rfl, merge_new _ _ (by simp)]
theorem w_disp1 {σ : L2.St} {H : Hp} {Q : VK} {k : Str} {v : V} (h : ∀ r H', H r = none → Same H H' → H' r = some (.dK (mapK [k] fun _ => v)) → Q (.ref r) H') : tDisp [(tC (.str k), tC v)] σ H Q := fun r hr =>
  ⟨upd_same, [((Sum.inr k : Key), v)], rfl, by simp, h r _ hr (Same.mut (Same.alloc hr) hr) (by rw [upd_same, merge_one])⟩
theorem w_disp1n {σ : L2.St} {H : Hp} {Q : VK} {k : Str} {i : Int} (h : ∀ r H', H r = none → Same H H' → H' r = some (.dK (mapK [k] fun _ => .int (-i))) → Q (.ref r) H') : tDisp [(tC (.str k), tUn (rU fun i => .int (-i)) (tC (.int i)))] σ H Q := fun r hr =>
  ⟨i, rfl, upd_same, [((Sum.inr k : Key), V.int (-i))], rfl, by simp, h r _ hr (Same.mut (Same.alloc hr) hr) (by rw [upd_same, merge_one])⟩
section
variable {P : Program} {w : World} {K : PySem.W.Frag} {mg : Str → Option Value} {base : Heap}
theorem ok_law_refuses (T : TX K mg) : Fok P w K mg base CX0 5 (He.ga K "_law_refuses") ["_law_net", "_law_knots_here"] [] (spLawRefuses K) := by
  obtain ⟨fd, F⟩ := T.fn_law_refuses
  refine ⟨⟨fd, [], ?_, F.bindsN fun _ _ _ _ _ _ us hl => match us, hl with | [_, _], _ => rfl, .nil⟩, F.kp⟩
  refine F.ok sc_law_refuses (fun vs H Q E h => ?_) (fun cdv A outer s H vs Q E hr h => ?_)
  · obtain ⟨_, _, _, rfl, _⟩ := h
    rfl
  obtain ⟨p, d, N, rfl, hA, hok, hen, hkn, k⟩ := h
  have hu := hu_of hr
  have hln := hok.len
  have O_settle1 := @ok_settle1 P w K mg base T
  have O_settle := @ok_settle P w K mg base T
  obtain ⟨ka, hka, hkk⟩ := id hkn
  refine ssx_nox ?_
  refine ssx_cons (ps_for PassesOwn.never rfl (qi_tup K (pe_tup (pa_cons (pe_disp (pps_cons pe_str pe_int pps_nil) rfl rfl (fun z => by cases z) (by decide)) (pa_cons (pe_disp (pps_cons pe_str (pe_un un_neg pe_int) pps_nil) rfl rfl (fun z => by cases z) (by decide)) (pa_cons (pe_disp (pps_cons pe_str pe_int pps_nil) rfl rfl (fun z => by cases z) (by decide)) (pa_cons (pe_disp (pps_cons pe_str pe_bl pps_nil) rfl rfl (fun z => by cases z) (by decide)) (pa_cons pe_non pa_nil))))))) (pg_name (i := 2) sc_law_refuses.nd rfl (Or.inl rfl)) SSX.ps) ?_
  walk_at "w"
  refine w_disp1 (k := "zz") (v := .int 1) fun d1 H1 hd1 s1 h1 => ?_
  walk_at "w"
  refine w_disp1n (k := "i") (i := 1) fun d2 H2 hd2 s2 h2 => ?_
  walk_at "w"
  refine w_disp1 (k := "o") (v := .int 1) fun d3 H3 hd3 s3 h3 => ?_
  walk_at "w"
  refine w_disp1 (k := "i") (v := .bl true) fun d4 H4 hd4 s4 h4 => ?_
  walk_at "w"
  refine w_newT (by simp) fun t H5 ht s5 h5 => ?_
  walk_at "w"
  have hbad : ∀ x ∈ [V.ref d1, V.ref d2, V.ref d3, V.ref d4, V.non], BadBl H5 x N := by
    have zno : ∀ x : Str, x ∉ kl → x ∉ N.names := fun x hx z => hx (hok.sub z)
    intro x hx
    simp only [List.mem_cons, List.not_mem_nil, or_false] at hx
    rcases hx with rfl | rfl | rfl | rfl | rfl
    · exact .inr ⟨d1, "zz", .int 1, rfl, (s2.trans (s3.trans (s4.trans s5))) _ _ h1, by decide +kernel, .inl ⟨by decide +kernel, zno _ (by decide +kernel)⟩⟩
    · exact .inr ⟨d2, "i", .int (-1), rfl, (s3.trans (s4.trans s5)) _ _ h2, by decide +kernel, .inr (.inr ⟨-1, rfl, by decide⟩)⟩
    · exact .inr ⟨d3, "o", .int 1, rfl, (s4.trans s5) _ _ h3, by decide +kernel, .inl ⟨by decide +kernel, hok.no_o⟩⟩
    · exact .inr ⟨d4, "i", .bl true, rfl, s5 _ _ h4, by decide +kernel, .inr (.inl ⟨true, rfl⟩)⟩
    · exact .inl rfl
  have s05 := s1.trans (s2.trans (s3.trans (s4.trans s5)))
  clear h1 h2 h3 h4 s1 s2 s3 s4 s5
  refine for_tup (xs := _) (fun i σ HA => (∃ o2, σ = [some (.ref p), some (.ref d), o2, none]) ∧ Same H5 HA) ⟨⟨_, rfl⟩, Same.refl _⟩ (fun i σ HA _ q => sqT (q.2 _ _ h5)) ?_ ?_
  · rintro i x σ HA hx ⟨⟨o2, rfl⟩, sA⟩
    walk_at "w"
    refine ssx_cons (ps_tryX (Wout := fun _ _ _ _ => False) rfl rfl ⟨rfl, rfl, .inl T.g_BadBalls⟩ takes_none) ?_
    intro pn xe tk po
    refine ssx_cons (ps_expr (pe_callFS O_settle1 (hr.mono (by decide)) rfl T.g_settle (passAt tk) (pa_cons (pv 0) (pa_cons (pv 2) pa_nil)))) ?_
    walk_at "w"
    refine w_callSD ?_
    walk_at "w"
    refine ⟨p, N, x, .non, rfl, hA.same (s05.trans sA), hok, .inr ⟨hen, .inl ⟨(hbad x (List.mem_of_getElem? hx)).same sA, fun H' s' => ⟨true, T.x_BadBalls, fun _ a ha oe pn _ _ => ?_, fun z => nomatch z⟩⟩⟩⟩
    refine ssx_cons ps_pass (ssx_nil (ssx_nil ?_))
    exact ⟨⟨_, rfl⟩, sA.trans s'⟩
  rintro σ HA ⟨⟨o2, rfl⟩, sA⟩
  have s0A := s05.trans sA
  clear s05 sA h5 hbad
  refine ssx_cons (ps_for PassesOwn.never rfl (qi_tup K (pe_tup (pa_cons pe_dnewK (pa_cons (pe_disp (pps_cons pe_str (pe_un un_neg pe_int) pps_nil) rfl rfl (fun z => by cases z) (by decide)) (pa_cons (pe_callTy (q_dictP K rfl) rfl T.f_dict bt_dict (pa_cons (pe_lock (pe_lc (own := [("_law_name", 3)]) rfl sc_law_refuses.nd (pi_keys (pv 1)) (blkOk_by (N := N_law_refuses) (sc := defScope s_law_refuses) (by decide +kernel)) (fun _ _ _ _ _ => (pg_name (i := 3) sc_law_refuses.nd rfl (Or.inl rfl))) (fun _ _ _ _ _ => pts_nil) (fun _ _ _ _ _ => (pe_tup (pa_cons (pv 3) (pa_cons pe_int pa_nil)))))) pa_nil)) (pa_cons pe_int pa_nil)))))) (pg_name (i := 2) sc_law_refuses.nd rfl (Or.inl rfl)) SSX.ps) ?_
  walk_at "w"
  refine w_new fun d1 H1 hd1 s1 h1 => ?_
  walk_at "w"
  refine w_disp1n (k := "a") (i := 1) fun d2 H2 hd2 s2 h2 => ?_
  walk_at "w"
  have s02 := s0A.trans (s1.trans s2)
  have h2d := s02 _ _ hka
  refine w_lockE h2d fun od => ?_
  walk_at "w"
  refine w_kys frz_at ?_
  refine rlcP walk_ks N.names (fun _ => .int 99) rfl (by omega) (fun H' s' => s' _ _ frz_at) ?_ ?_
  · rintro i y _ H3 k hi hk s3 ⟨rfl, k0, hk0, rfl⟩ KT KF hKT
    rw [hk] at hk0; cases hk0
    walk_at "w"
    refine ⟨rfl, ?_⟩
    walk_at "w"
    refine w_newT (by simp) fun q H4 hq s4 h4 => ?_
    exact hKT _ _ s4 h4
  intro D qs H3 hD s3 h3D hP3
  refine ⟨s3 _ _ frz_at, ?_⟩
  have hDd : D ≠ d := fun z => by rw [z, upd_same] at hD; cases hD
  have h3d := s3 _ _ (frz_at (H := H2) (a := d) (o := od))
  have s4 : Same H2 (upd H3 d (.dK (mapK N.names fun k => .ref (ka k)))) := Same.unlock h2d s3
  have h4D : upd H3 d (.dK (mapK N.names fun k => .ref (ka k))) D = some (.lst (qs.map V.ref)) := by rw [upd_ne hDd]; exact h3D
  have hP4 : Paired (PrAt K (upd H3 d (.dK (mapK N.names fun k => .ref (ka k)))) fun _ => .int 99) qs N.names := paired_imp hP3 fun q _ e => sqT (by rw [upd_ne (fun z => by rw [z, h3d] at e; cases e)]; exact e)
  generalize upd H3 d (.dK (mapK N.names fun k => .ref (ka k))) = H4 at *
  walk_at "w"
  refine w_dictPs (sqL h4D) hP4 hok.nodup fun d3 H5 hd3 s5 h5 => ?_
  walk_at "w"
  refine w_newT (by simp) fun t H6 ht s6 h6 => ?_
  walk_at "w"
  have hbad : ∀ x ∈ [V.ref d1, V.ref d2, V.ref d3, V.int 3], BadSt H6 x N := by
    intro x hx
    simp only [List.mem_cons, List.not_mem_nil, or_false] at hx
    rcases hx with rfl | rfl | rfl | rfl
    · exact .inr ⟨d1, [], fun _ => 0, rfl, (s2.trans (s4.trans (s5.trans s6))) _ _ h1, by simp, .inl (by show 0 ≠ _; omega)⟩
    · exact .inr ⟨d2, ["a"], fun _ => -1, rfl, (s4.trans (s5.trans s6)) _ _ h2, by simp, .inr ⟨by simp, by show ¬ ((0 : Int) ≤ -1 ∧ _); omega⟩⟩
    · refine .inr ⟨d3, N.names, fun _ => 99, rfl, s6 _ _ h5, by omega, .inr ⟨hok.a_in, ?_⟩⟩
      have := hok.len_lt hok.a_in
      show ¬ ((0 : Int) ≤ 99 ∧ (99 : Int) < _)
      omega
    · exact .inl ⟨3, rfl⟩
  have s06 := s02.trans (s4.trans (s5.trans s6))
  clear h1 h2 h5 s1 s2 s4 s5 s6 s3 hP3 hP4 h4D h3D h3d hD h2d s02 s0A
  refine for_tup (xs := _) (fun i σ HA => (∃ o2, σ = [some (.ref p), some (.ref d), o2, none]) ∧ Same H6 HA) ⟨⟨_, rfl⟩, Same.refl _⟩ (fun i σ HA _ q => sqT (q.2 _ _ h6)) ?_ ?_
  · rintro i x σ HA hx ⟨⟨o2, rfl⟩, sA⟩
    walk_at "w"
    refine ssx_cons (ps_tryX (Wout := fun _ _ _ _ => False) rfl rfl ⟨rfl, rfl, .inl T.g_BadStanding⟩ takes_none) ?_
    intro pn xe tk po
    refine ssx_cons (ps_expr (pe_callFS O_settle (hr.mono (by decide)) rfl T.g_settle (passAt tk) (pa_cons (pv 0) (pa_cons pe_dnewK (pa_cons (pv 2) pa_nil))))) ?_
    walk_at "w"
    refine w_callSD ?_
    walk_at "w"
    refine w_new fun e0 H7 he0 s7 h7 => ?_
    walk_at "w"
    refine ⟨p, N, .ref e0, x, rfl, hA.same (s06.trans (sA.trans s7)), hok, .inr ⟨hen, .inr ⟨e0, [], fun _ => 0, rfl, ⟨h7, by simp, by simp⟩, .inl ⟨(hbad x (List.mem_of_getElem? hx)).same (sA.trans s7), fun H' s' => ⟨true, T.x_BadStanding, fun _ a ha oe pn _ _ => ?_, fun z => nomatch z⟩⟩⟩⟩⟩
    refine ssx_cons ps_pass (ssx_nil (ssx_nil ?_))
    exact ⟨⟨_, rfl⟩, sA.trans (s7.trans s')⟩
  rintro σ HB ⟨⟨o2', rfl⟩, sB⟩
  refine ssx_cons (ps_ret pe_bl) ?_
  walk_at "w"
  exact k _ (s06.trans sB)
end
end K1
namespace K1
open PySem PySem.Spec L2
open PyProof.Rows hiding St
theorem minD_strs : ∀ (zs : List Str) (z : Str), ∃ m, PySem.W.minD (.str z) (zs.map .str) = .str m ∧ m ∈ z :: zs ∧ ∀ y ∈ z :: zs, leS m y
  | [], z => ⟨z, rfl, by simp, fun y hy => by
    obtain rfl := List.mem_singleton.mp hy
    exact List.lt_irrefl _⟩
  | y :: ys, z => by
    have e : PySem.W.minD (.str z) ((y :: ys).map PyData.str) = PySem.W.minD (if PySem.W.dataLt (.str y) (.str z) = true then .str y else .str z) (ys.map .str) := rfl
    rw [e, PySem.W.dataLt_str]
    by_cases h : y.cps.toList < z.cps.toList
    · rw [if_pos (by simpa using h)]
      obtain ⟨m, h1, h2, h3⟩ := minD_strs ys y
      refine ⟨m, h1, List.mem_cons_of_mem _ h2, fun x hx => ?_⟩
      rcases List.mem_cons.mp hx with rfl | hx
      · exact leS_trans (h3 y (List.mem_cons_self ..)) (fun w => List.lt_irrefl _ (List.lt_trans w h))
      · exact h3 x hx
    · rw [if_neg (by simpa using h)]
      obtain ⟨m, h1, h2, h3⟩ := minD_strs ys z
      refine ⟨m, h1, ?_, fun x hx => ?_⟩
      · rcases List.mem_cons.mp h2 with rfl | h2
        · exact List.mem_cons_self ..
        · exact List.mem_cons_of_mem _ (List.mem_cons_of_mem _ h2)
      · rcases List.mem_cons.mp hx with rfl | hx
        · exact h3 x (List.mem_cons_self ..)
        · rcases List.mem_cons.mp hx with rfl | hx
          · exact leS_trans (h3 z (List.mem_cons_self ..)) h
          · exact h3 x (List.mem_cons_of_mem _ hx)
def rMinS (K : PySem.W.Frag) : List V → Hp → VK → Prop := fun vs H Q => ∃ (a : Addr) (z : Str) (zs : List Str), vs = [V.ref a] ∧ SqL K H a ((z :: zs).map V.str) ∧ ∀ m, m ∈ z :: zs → (∀ y ∈ z :: zs, leS m y) → Q (.str m) H
theorem depth_strs (zs : List Str) : PyData.depthAll (zs.map PyData.str) = 0 := by
  induction zs with
  | nil => rfl
  | cons z zs ih => simp [PyData.depthAll, PyData.depth, ih]
theorem cr_minS {X : Cx} (hc : X.calm = true) (hu : X.A.units + 64 < cLine) : CallR X (.builtin "min") (rMinS X.K) := by
  intro pins s σ H vs us Q I r h
  obtain ⟨a, z, zs, rfl, hs, q⟩ := h
  obtain ⟨its, rv, hl, _⟩ := I.list hs
  rw [Vals.ref1 r]
  obtain ⟨as, hr⟩ := Dp.readsAll I ((z :: zs).map .str) _ its (dp_strs (z :: zs)) rv
  refine PySem.W.min_list_data (I.ok.hd hc) hl.isList (vs := its.toArray) (x := .str z) (xs := zs.map .str) (show ReadsAll s.heap its.toArray.toList _ as from hr) ⟨fun x hx y hy => ?_, fun x hx => ?_⟩ ?_ fun i v h' tk bs _ hR hk => ?_
  · obtain ⟨x', _, rfl⟩ := List.mem_map.mp (show x ∈ (z :: zs).map PyData.str from hx)
    obtain ⟨y', _, rfl⟩ := List.mem_map.mp (show y ∈ (z :: zs).map PyData.str from hy)
    simp [PySem.W.alike]
  · obtain ⟨x', _, rfl⟩ := List.mem_map.mp (show x ∈ (z :: zs).map PyData.str from hx)
    intro w; cases w
  · rw [show PyData.depthAll (PyData.str z :: zs.map PyData.str) = 0 from depth_strs (z :: zs)]; omega
  · obtain ⟨m, e, h1, h2⟩ := minD_strs zs z
    rw [e] at hR
    cases hR with
    | str x t => exact ⟨.str m, H, I.kept hk, ⟨t, rfl⟩, q m h1 h2⟩
theorem q_minS {X : Cx} (K : PySem.W.Frag) (hc : X.calm = true) (hu : X.A.units + 64 < cLine) (hK : X.K = K := by rfl) : CallR X (.builtin "min") (rMinS K) := hK ▸ cr_minS hc hu
theorem eqv_strs : ∀ (xs : List Str), PyData.eqvAll (xs.map PyData.str) (xs.map PyData.str) = true
  | [] => by simp [PyData.eqvAll]
  | x :: xs => by simp [PyData.eqvAll, PyData.eqv, eqv_strs xs]
theorem w_neSameS {K : PySem.W.Frag} {H : Hp} {Q : VK} {a b : Addr} {xs : List Str} (ha : SqL K H a (xs.map V.str)) (hb : SqL K H b (xs.map V.str)) (ok : ∀ x ∈ xs, PyData.strOk x = true) (h : Q (.bl false) H) : rNeD K (.ref a) (.ref b) H Q := by
  refine ⟨.list (xs.map .str), .list (xs.map .str), .lst ha (dp_strs xs), .lst hb (dp_strs xs), (DL.strs (K := K) (H := H) xs ok).shL, (DL.strs (K := K) (H := H) xs ok).shL, ?_⟩
  rw [show PyData.eqv (.list (xs.map .str)) (.list (xs.map .str)) = true by simp [PyData.eqv, eqv_strs xs]]
  exact h
end K1
namespace K1
open PySem PySem.Spec L2
open PyProof.Rows hiding St
section
variable {N : NetD} {w0 w1 w2 p0 us u v : Str → Nat}
theorem wt_congr {x : Str} (h : ∀ k ∈ N.names, u k = v k) (hx : x ∈ N.names) : N.wt w0 p0 u x = N.wt w0 p0 v x := by
  unfold NetD.wt
  rw [N.got_congr h, h x hx]
theorem rest_of (hok : N.Ok) {m : Nat} (hb : ∀ u, N.Reach w0 p0 u → tot N u ≤ m) : ∀ (n : Nat) (u : Str → Nat), N.Reach w0 p0 u → m - tot N u = n → ∃ v, N.Reach w0 p0 v ∧ ∀ k ∈ N.names, N.wt w0 p0 v k ≤ 0 := by
  intro n
  induction n with
  | zero =>
    intro u hu hn
    by_cases h : ∀ k ∈ N.names, N.wt w0 p0 u k ≤ 0
    · exact ⟨u, hu, h⟩
    · exfalso
      obtain ⟨k, hk⟩ := Classical.not_forall.mp h
      obtain ⟨hk, hw⟩ := Classical.not_imp.mp hk
      have h2 : N.Reach w0 p0 (up u k (u k + 1)) := .step hu hk (by omega)
      have := hb _ h2
      rw [tot_up hok hk] at this
      omega
  | succ n ih =>
    intro u hu hn
    by_cases h : ∀ k ∈ N.names, N.wt w0 p0 u k ≤ 0
    · exact ⟨u, hu, h⟩
    · obtain ⟨k, hk⟩ := Classical.not_forall.mp h
      obtain ⟨hk, hw⟩ := Classical.not_imp.mp hk
      have h2 : N.Reach w0 p0 (up u k (u k + 1)) := .step hu hk (by omega)
      exact ih _ h2 (by rw [tot_up hok hk]; omega)
theorem full_part (hok : N.Ok) (hw : ∀ k ∈ N.names, w0 k ≤ w1 k) (hf : Full N w1 p0 us) : ∃ u, Full N w0 p0 u := by
  have hb : ∀ u, N.Reach w0 p0 u → tot N u ≤ 5000 := fun u hu => Nat.le_trans (tot_le (N.reach_le hf.rest hw hu)) hf.few
  obtain ⟨v, h1, h2⟩ := rest_of hok hb _ _ .zero rfl
  exact ⟨v, h1, h2, hb _ h1⟩
theorem full_then (hok : N.Ok) (hw : ∀ k ∈ N.names, w2 k = w0 k + w1 k) (hf : Full N w2 p0 us) (h0 : Full N w0 p0 u) : ∃ v, Full N w1 (fun k => N.plc k (p0 k) (u k)) v ∧ ∀ k ∈ N.names, u k + v k = us k := by
  have hz : ∀ k ∈ N.names, N.wt w0 p0 u k = 0 := fun k hk => Int.le_antisymm (h0.rest k hk) (N.reach_pos hok.nodup h0.rs k hk)
  have hb : ∀ v, N.Reach w1 (fun k => N.plc k (p0 k) (u k)) v → tot N v ≤ 5000 := fun v hv => by
    have h1 := (N.reach_then hok.nodup hw h0.rs hz hv).1
    have h2 := N.reach_le hf.rest (fun _ _ => Nat.le_refl _) h1
    refine Nat.le_trans (tot_le fun k hk => ?_) hf.few
    have : u k + v k ≤ us k := h2 k hk
    omega
  obtain ⟨v, h1, h2⟩ := rest_of hok hb _ _ .zero rfl
  refine ⟨v, ⟨h1, h2, hb _ h1⟩, ?_⟩
  obtain ⟨h3, h4⟩ := N.reach_then hok.nodup hw h0.rs hz h1
  exact N.reach_eq hf.rest (fun k hk => by rw [h4 k hk]; exact h2 k hk) hf.rs h3
theorem got_then (x : Str) : N.got p0 (fun k => u k + v k) x = N.got p0 u x + N.got (fun k => N.plc k (p0 k) (u k)) v x := NetD.sm_add fun k _ => N.fall_add k _ _ _ x
theorem full_none : Full N (fun _ => 0) p0 zu := by
  refine ⟨.zero, fun k _ => ?_, ?_⟩
  · have : N.wt (fun _ => 0) p0 zu k = ((0 : Nat) : Int) := wt_zero
    exact Int.le_of_eq this
  · have : ∀ l : List Str, NetD.sm zu l = 0 := fun l => by
      induction l with
      | nil => rfl
      | cons b l ih => show 0 + _ = 0; rw [ih]
    show NetD.sm zu N.names ≤ 5000
    rw [this]; omega
theorem settles_none {ord : List (Str × Nat)} (hok : N.Ok) (h : Settles N w0 p0 zu ord) : ord = [] := by
  have h1 := tot_aft hok ord zu h.names
  have h2 := tot_le (N := N) (u := aft zu ord) (v := zu) fun k hk => Nat.le_of_eq (h.aft k hk)
  cases ord with
  | nil => rfl
  | cons e r => rw [List.length_cons] at h1; omega
end
section
variable {N : NetD} {w0 p0 us : Str → Nat} {ord : List (Str × Nat)}
theorem restO_of (h : Settles N w0 p0 us ord) (hf : Full N w0 p0 us) : ∀ k ∈ N.names, N.wt w0 p0 (aft zu ord) k ≤ 0 := fun k hk => by
  rw [wt_congr h.aft hk]
  exact hf.rest k hk
theorem early_of (h : Settles N w0 p0 us ord) (hne : ord ≠ []) : legal N w0 p0 zu ord.dropLast ∧ (∀ e ∈ ord.dropLast, e.1 ∈ N.names ∧ 1 ≤ e.2) ∧ ∃ k ∈ N.names, 0 < N.wt w0 p0 (aft zu ord.dropLast) k := by
  have e : ord = ord.dropLast ++ [ord.getLast hne] := (List.dropLast_concat_getLast hne).symm
  have hl := h.legal
  rw [e, legal_snoc] at hl
  have hm := h.names _ (List.getLast_mem hne)
  exact ⟨hl.1, fun x hx => h.names x (List.dropLast_subset _ hx), _, hm.1, by omega⟩
end
theorem bsum_split (N : NetD) (bl : Str → Nat) (x : Str) : bsum N bl ["i", "j", "a"] x = bsum N bl ["i"] x + bsum N bl ["j", "a"] x := by
  unfold bsum
  simp only [NetD.sm]
  omega
theorem first_least {N : NetD} (hok : N.Ok) {w0 : Str → Nat} {z : Str} {l1 l2 : List Str} (h : N.names = l1 ++ z :: l2) (h1 : ∀ y ∈ l1, w0 y = 0) {ws : List Str} (hws : ∀ k ∈ ws, k ∈ N.names ∧ 0 < w0 k) (hz : z ∈ ws) {m : Str} (hm : m ∈ ws) (hl : ∀ y ∈ ws, leS m y) : m = z := by
  refine leS_anti (hl z hz) ?_
  have hp := sorted_pw _ (names_sorted hok)
  rw [h] at hp
  have hp2 := (List.pairwise_append.mp hp).2.1
  have hmn := hws m hm
  rw [h] at hmn
  rcases List.mem_append.mp hmn.1 with q | q
  · have := h1 m q
    omega
  · rcases List.mem_cons.mp q with rfl | q
    · exact List.lt_irrefl _
    · exact (List.pairwise_cons.mp hp2).1 m q
end K1
namespace K1
open PySem PySem.Spec L2
open PyProof.Rows hiding St
def spLaw (K : PySem.W.Frag) : Sp := fun vs H Q _ => ∃ a : Addr, vs = [.ref a] ∧ Scr K H a ∧ ∀ H', Q (.bl true) H'
abbrev N_law : List Str := ["_law_script", "_law_knots_here", "_law_inlets_here", "_law_net", "_law_name", "_law_standing", "_law_balls", "_law_taken", "_law_out", "_law_late", "_law_rests", "_law_found", "_law_first", "_law_second", "_law_turns", "_law_many", "error", "_law_at", "_law_one"]
theorem sc_law : FnScope N_law ["_law_script"] (defScope s_law) := ⟨rfl, rfl, rfl, by decide +kernel, rfl, by decide +kernel, by decide +kernel⟩
abbrev LX (P : Program) (w : World) (K : PySem.W.Frag) (mg : Str → Option Value) (base : Heap) (cdv : Value) (A : Around) (outer : List Env) (s : Shared) (H : Hp) (E : XK) : Cx := (cxOf CX0 P w K mg base N_law "law" (defScope s_law) (He.ga K "law") cdv A outer s H E).nox
abbrev LD (Q : VK) : Ends := { nx := fun _ H' => Q .non H', rt := Q }
abbrev LR (k : Nat) (K : PySem.W.Frag) (cdv : Value) (A : Around) (s : Shared) : Prop := Room k (A.deeper (envOfC "law" (defScope s_law) s.heap.objs.size (He.ga K "law") cdv))
abbrev lks : List Str := ["i", "j", "a"]
structure LawC (K : PySem.W.Frag) (H : Hp) (N : NetD) (bl p0 us : Str → Nat) (d ia p bd sd tk od lt : Addr) : Prop where
  kn : KnotsAt K H d N
  il : H ia = some (.dK (mapK ["i", "j"] fun k => .str (inl N k)))
  net : NetAt K H p N
  bls : BlAt H bd N lks bl
  st : StAt H sd N p0
  tk : H tk = some (DI N.names fun k => (us k : Int))
  od : H od = some (DI ["o", "p"] fun k => (N.got p0 us k : Int))
  lt : H lt = some (DI N.names fun k => (N.plc k (p0 k) (us k) : Int))
theorem LawC.same {K : PySem.W.Frag} {H H' : Hp} {N : NetD} {bl p0 us : Str → Nat} {d ia p bd sd tk od lt : Addr} (e : Same H H') (h : LawC K H N bl p0 us d ia p bd sd tk od lt) : LawC K H' N bl p0 us d ia p bd sd tk od lt :=
  ⟨h.kn.same e, e _ _ h.il, h.net.same e, h.bls.same e, h.st.same e, e _ _ h.tk, e _ _ h.od, e _ _ h.lt⟩
structure LawP (N : NetD) (bl p0 us : Str → Nat) : Prop where
  ok : N.Ok
  en : N.Ends
  full : Full N (bsum N bl lks) p0 us
section
variable {X : Cx} (K : PySem.W.Frag)
theorem q_neTup (hr : Room 1 X.A) (hK : X.K = K := by rfl) : OpR X (compareOp .NotEq) (rNeG (DTup K DDic)) := hK ▸ op_neTup mon_dic eqG_dic hr
theorem q_eqSet {P : Program} {w : World} {mg : Str → Option Value} {base : Heap} (T : TX K mg) (O : Fok P w K mg base CX0 4 (He.ma K (He.ga K "Settled") "__eq__") ["self", "other"] [] (spEq (SetEq K))) (hr : Room 4 X.A) (hP : X.prog = P := by rfl) (hw : X.w = w := by rfl) (hK : X.K = K := by rfl) (hmg : X.mg = mg := by rfl) (hB : X.base = base := by rfl) :
    OpR X (compareOp .Eq) (rEqG (DIns (He.ga K "Settled") (SetEq K))) := by
  subst hP hw hK hmg hB
  obtain ⟨fd, ds, F, hb, hd⟩ := O.ex
  cases hd
  exact op_eqG (rcG_ins (E := fun _ _ _ => False) F T.m_Settled_eq.1 T.m_Settled_eq.2 hb pass0) hr
end
theorem w_listG {sp : SpG} {dvs : List V} {E : XK} {t : TA} {σ : L2.St} {H : Hp} {Q : VK} (h : t σ H fun vs H1 => sp (vs ++ dvs) H1 (fun out H2 => ∀ p, H2 p = none → Q (.ref p) (upd H2 p (.lst out))) E) : tListG (tCallG sp dvs E t) σ H Q := h
theorem dic_eq {H : Hp} {a b : Addr} {ks : List Str} {f g : Str → Int} (ha : H a = some (DI ks f)) (hb : H b = some (DI ks g)) (h : ∀ k ∈ ks, f k = g k) : DDic (.ref a) (.ref b) H := ⟨a, b, ks, ks, f, g, rfl, rfl, ha, hb, rfl, fun k hk => ⟨hk, h k hk⟩⟩
end K1
namespace K1
open PySem PySem.Spec L2
open PyProof.Rows hiding St
local macro_rules | `(tactic| walk_at "hp") => `(tactic| first | assumption | exact upd_same)
local macro_rules | `(tactic| walk_at "sq") => `(tactic| first | assumption | exact sqL (by assumption) | exact sqT (by assumption))
local macro_rules | `(tactic| walk_at "w1") => `(tactic| first
  | with_reducible refine w_asg ?_
  | with_reducible refine w_c ?_
  | with_reducible refine w_gname ?_
  | with_reducible refine w_if ?_
  | with_reducible refine w_ifs ?_
  | with_reducible refine w_test ?_
  | with_reducible refine w_tB ?_
  | with_reducible refine w_bl ?_
  | with_reducible refine w_op ?_
  | with_reducible refine w_nil ?_
  | with_reducible refine w_cons ?_
  | with_reducible refine w_cb ?_
  | with_reducible refine w_I0 ?_
  | with_reducible refine w_lst ?_
  | with_reducible refine w_tup ?_
  | with_reducible refine w_sl ?_
  | with_reducible refine w_noPart ?_
  | with_reducible refine w_part ?_
  | with_reducible refine w_int ?_
  | with_reducible refine w_par ?_
  | with_reducible refine w_two ?_
  | with_reducible refine w_par3 ?_
  | with_reducible refine w_three ?_
  | with_reducible refine w_ret ?_
  | with_reducible refine w_drop ?_
  | with_reducible refine w_chain ?_
  | with_reducible refine w_and ?_
  | with_reducible refine w_or ?_
  | with_reducible refine w_not ?_
  | with_reducible refine w_notV ?_
  | with_reducible refine w_andV ?_
  | with_reducible refine w_orV ?_
  | with_reducible refine w_int1 ?_
  | with_reducible refine w_true ?_
  | with_reducible refine w_false ?_
  | with_reducible refine w_for ?_
  | with_reducible refine w_rng1 ?_
  | with_reducible refine w_rng2 ?_
  | with_reducible refine w_iList ?_
  | with_reducible refine w_iTup ?_
  | with_reducible refine w_dget ?_
  | with_reducible refine w_din ?_
  | with_reducible refine w_dnotin ?_
  | with_reducible refine w_dput ?_
  | with_reducible refine w_dget2 ?_
  | with_reducible refine w_fld ?_
  | with_reducible refine w_dnew ?_
  | with_reducible refine w_lc ?_
  | with_reducible refine w_dc ?_
  | with_reducible refine w_iStr ?_
  | with_reducible refine w_str ?_
  | with_reducible refine w_iEnum ?_
  | with_reducible refine w_iZip ?_
  | with_reducible refine w_yes ?_
  | with_reducible refine w_gtup ?_
  | with_reducible refine w_gcons ?_
  | with_reducible refine w_rcons ?_
  | with_reducible refine w_gnil ?_
  | with_reducible refine w_leS ?_
  | with_reducible refine w_isN ?_
  | with_reducible refine w_notN ?_
  | with_reducible refine w_call ?_
  | with_reducible refine w_meth ?_
  | with_reducible refine w_bm ?_
  | with_reducible refine w_bm0 ?_
  | with_reducible refine isi_int ?_
  | with_reducible refine isi_bl_int ?_
  | with_reducible refine isi_int_bl ?_
  | with_reducible refine isi_bl ?_
  | with_reducible refine isi_str ?_
  | with_reducible refine isi_non_dict ?_
  | with_reducible refine isi_int_dict ?_
  | with_reducible refine w_ntrue ?_
  | with_reducible refine w_nfalse ?_
  | with_reducible refine w_wt ?_
  | with_reducible refine w_starD ?_
  | with_reducible refine w_starT ?_
  | with_reducible refine w_listVals ?_
  | with_reducible refine w_iEnumT ?_
  | with_reducible refine w_iEnumS ?_
  | with_reducible refine w_enumS ?_
  | with_reducible refine w_frz ?_
  | with_reducible refine w_iItems ?_
  | with_reducible refine w_iKeys ?_
  | with_reducible refine w_iVals ?_
  | with_reducible refine w_strS ?_
  | with_reducible refine w_daug ?_
  | with_reducible refine w_rAdd ?_
  | with_reducible refine w_sfld ?_
  | ((with_reducible refine' w_var ?wsd ?_); (case wsd => first | rfl | assumption))
  | ((with_reducible refine' w_eq ?wsd ?_); (case wsd => rfl))
  | ((with_reducible refine' w_ne ?wsd ?_); (case wsd => rfl))
  | ((with_reducible refine' w_lenL ?wsd ?_); (case wsd => walk_at "sq"))
  | ((with_reducible refine' w_lenT ?wsd ?_); (case wsd => walk_at "sq"))
  | ((with_reducible refine' w_itL ?wsd ?_); (case wsd => walk_at "sq"))
  | ((with_reducible refine' w_itT ?wsd ?_); (case wsd => walk_at "sq"))
  | ((with_reducible refine' w_rng1v ?wsd ?_); (case wsd => omega))
  | ((with_reducible refine' w_rng2v ?wsd ?_); (case wsd => omega))
  | ((with_reducible refine' w_I ?wsd ?_); (case wsd => walk_at "side"))
  | ((with_reducible refine' w_dtrue ?wsd ?_); (case wsd => first | assumption | omega | rfl | decide))
  | ((with_reducible refine' w_dfalse ?wsd ?_); (case wsd => first | assumption | omega | decide))
  | ((with_reducible refine' w_ndtrue ?wsd ?_); (case wsd => first | assumption | omega | rfl | decide))
  | ((with_reducible refine' w_ndfalse ?wsd ?_); (case wsd => first | assumption | omega | decide))
  | ((with_reducible refine' w_stD ?wsd ?_); (case wsd => walk_at "hp"))
  | ((with_reducible refine' w_stT ?wsd ?_); (case wsd => walk_at "sq"))
  | ((with_reducible refine' w_stL ?wsd ?_); (case wsd => walk_at "sq"))
  | ((with_reducible refine' w_isD ?wsd ?_); (case wsd => walk_at "hp"))
  | ((with_reducible refine' isi_tup ?wsd ?_); (case wsd => walk_at "sq"))
  | ((with_reducible refine' isi_dict ?wsd ?_); (case wsd => walk_at "hp"))
  | ((with_reducible refine' w_lenDv ?wsd ?_); (case wsd => walk_at "hp"))
  | ((with_reducible refine' w_enum ?wsd ?_); (case wsd => walk_at "sq"))
  | ((with_reducible refine' w_enumT ?wsd ?_); (case wsd => walk_at "sq"))
  | ((with_reducible refine' w_tyL ?wsd ?_); (case wsd => walk_at "sq")))
local macro_rules | `(tactic| walk_at "side") => `(tactic| first | omega | decide | (constructor <;> omega) | (constructor <;> decide) | (simp only [List.length_map, List.length_append, List.length_cons, List.length_nil, CDivN, CMul, CPow]; first | omega | decide | (constructor <;> omega)))
local macro_rules | `(tactic| walk_at "w") => `(tactic| repeat (walk_at "w1"))
section
variable {P : Program} {w : World} {K : PySem.W.Frag} {mg : Str → Option Value} {base : Heap} {cdv : Value} {A : Around} {outer : List Env} {s : Shared} {H H1 : Hp} {E : XK} {Q : VK} {N : NetD} {bl p0 us : Str → Nat} {sc d ia p bd sd tk od lt : Addr}
theorem law_B (T : TX K mg) (hB : BadRule P K mg) (hr : LR 8 K cdv A s) (hP : LawP N bl p0 us) (C : LawC K H1 N bl p0 us d ia p bd sd tk od lt)
    (next : ∀ f ord H2, LawC K H2 N bl p0 us d ia p bd sd tk od lt → SetO K H2 f N p0 us ord → Settles N (bsum N bl lks) p0 us ord → SSX (LX P w K mg base cdv A outer s H E) ((defBody s_law).drop 12) (LD Q)
      [some (.ref sc), some (.ref d), some (.ref ia), some (.ref p), none, some (.ref sd), some (.ref bd), some (.ref tk), some (.ref od), some (.ref lt), some (.bl true), some (.ref f), none, none, none, none, none, none, none] H2) :
    SSX (LX P w K mg base cdv A outer s H E) ((defBody s_law).drop 9) (LD Q)
      [some (.ref sc), some (.ref d), some (.ref ia), some (.ref p), none, some (.ref sd), some (.ref bd), some (.ref tk), some (.ref od), some (.ref lt), some (.bl true), none, none, none, none, none, none, none, none] H1 := by
  have hok := hP.ok
  have hln := hok.len
  have hu := hu_of hr
  have O_settle := @ok_settle P w K mg base T
  have O_Settled_shows := @ok_Settled_shows P w K mg base T hB
  have O_played := @ok_played P w K mg base T hB
  have hpN : Passes (L2.CX P w) (LX P w K mg base cdv A outer s H E) (fun _ _ _ => False) := passN
  refine ssx_cons (ps_set (i := 11) sc_law.nd rfl (Or.inl rfl) (pe_callF O_settle (hr.mono (by decide)) rfl T.g_settle hpN (pa_cons (pv 3) (pa_cons (pv 6) (pa_cons (pv 5) pa_nil))))) ?_
  walk_at "w"
  refine ⟨p, N, .ref bd, .ref sd, rfl, C.net, hok, .inr ⟨hP.en, .inr ⟨bd, lks, bl, rfl, C.bls, .inr ⟨p0, us, .inr ⟨sd, rfl, C.st⟩, hP.full, fun f ord H2 s2 hS hSet => ?_⟩⟩⟩⟩
  have C2 := C.same s2
  clear C s2
  walk_at "w"
  refine ssx_cons (ps_if (PW.pt (pw_or (pt_cmpR (q_neTup K (hr.mono (by decide))) (pe_tup (pa_cons (q_fld K (pv 11) rfl) (pa_cons (q_fld K (pv 11) rfl) (pa_cons (q_fld K (pv 11) rfl) pa_nil)))) (pe_tup (pa_cons (pv 7) (pa_cons (pv 8) (pa_cons (pv 9) pa_nil)))) (nomark _)) (pw_or (pt_cmpR (q_neD K hr.units) (pe_callTy (k_listD rfl) rfl T.f_list bt_list (pa_cons (q_fld K (pv 11) rfl) pa_nil)) (pe_callB (q_sortS K) rfl T.f_sorted bb_sorted (pa_cons (pe_callTy (k_listD rfl) rfl T.f_list bt_list (pa_cons (pv 1) pa_nil)) pa_nil)) (nomark _)) (pw_or1 (pt_not (pt_val (pe_methF (pv 11) T.c_Settled T.m_Settled_shows O_Settled_shows (hr.mono (by decide)) pass0 (pa_cons (pv 3) (pa_cons (pv 6) (pa_cons (pv 5) pa_nil)))))))))) SSX.ps SSX.ps) ?_
  obtain ⟨td', od', st', ol', dx', hOb⟩ := id hS
  walk_at "w"
  refine w_staken T hOb ?_
  walk_at "w"
  refine w_sout T hOb ?_
  walk_at "w"
  refine w_sstanding T hOb ?_
  walk_at "w"
  refine w_newT (by simp) fun m1 H3 hm1 s3 h3 => ?_
  walk_at "w"
  refine w_newT (by simp) fun m2 H4 hm2 s4 h4 => ?_
  have s34 := s3.trans s4
  have C4 := C2.same s34
  have hO4 := (hOb.same s3).same s4
  refine ⟨⟨m1, m2, _, _, rfl, rfl, sqT (s4 _ _ h3), sqT h4, Prs.cons (dic_eq hO4.htd C4.tk fun _ _ => rfl) (Prs.cons (dic_eq hO4.hod C4.od fun _ _ => rfl) (Prs.cons (dic_eq hO4.hst C4.lt fun _ _ => rfl) Prs.nil))⟩, fun H5 e5 => ?_⟩
  have e5' : Same H4 H5 := e5
  have C5 := C4.same e5'
  have hO5 := hO4.same e5'
  clear C4 hO4 h3 h4 e5 e5' s3 s4 s34 hm1 hm2 C2 hOb hS
  walk_at "w"
  refine w_staken T hO5 ?_
  walk_at "w"
  refine w_listD hO5.htd fun l1 H6 hl1 s6 h6 => ?_
  walk_at "w"
  have C6 := C5.same s6
  have hO6 := hO5.same s6
  obtain ⟨ka, hka, _⟩ := id C6.kn
  refine w_listD hka fun l2 H7 hl2 s7 h7 => ?_
  walk_at "w"
  refine w_sortS (ks := N.names) (xs := N.names) (sqL h7) (by omega) (List.Perm.refl _) (names_sorted hok) fun l3 H8 hl3 s8 h8 => ?_
  refine w_neSameS (xs := N.names) (sqL ((s7.trans s8) _ _ h6)) (sqL h8) (names_ltr hok) ?_
  have C8 := C6.same (s7.trans s8)
  have hO8 := hO6.same (s7.trans s8)
  clear C5 C6 hO5 hO6 h6 h7 h8 s6 s7 s8 hka
  walk_at "w"
  refine w_rmeth hO8.ob lks_shows ?_
  walk_at "w"
  refine ⟨f, p, bd, .ref sd, N, lks, bl, p0, us, ord, rfl, C8.net, hok, C8.bls, .inr ⟨sd, rfl, C8.st⟩, ⟨_, _, _, _, _, hO8⟩, hSet.names, .inl ⟨hSet.legal, restO_of hSet hP.full, hSet.aft, fun H9 s9 => ?_⟩⟩
  have C9 := C8.same s9
  have hO9 := hO8.same s9
  clear C8 hO8 s9
  walk_at "w"
  refine ssx_nil ?_
  refine ssx_cons (ps_if (pt_cmpR (q_neTup K (hr.mono (by decide))) (pe_callF O_played (hr.mono (by decide)) rfl T.g_played hpN (pa_cons (pv 3) (pa_cons (pv 6) (pa_cons (q_fld K (pv 11) rfl) (pa_cons (pv 5) pa_nil))))) (pe_tup (pa_cons pe_dnewK (pa_cons (pv 8) (pa_cons (pv 9) pa_nil)))) (nomark _)) SSX.ps SSX.ps) ?_
  walk_at "w"
  refine w_sorder T hO9 ?_
  walk_at "w"
  refine ⟨p, bd, ol', .ref sd, N, lks, bl, p0, ord, rfl, C9.net, hok, C9.bls, .inr ⟨sd, rfl, C9.st⟩, hO9.hol, hSet.names, .inl ⟨hSet.legal, restO_of hSet hP.full, fun t wd od2 sd2 HA sA hAt hAw hAo hAs => ?_⟩⟩
  walk_at "w"
  refine w_new fun e0 HB he0 sB hBe => ?_
  walk_at "w"
  refine w_newT (by simp) fun m3 HC hm3 sC hC => ?_
  have sBC := sB.trans sC
  have CC := (C9.same sA).same sBC
  have hOC := (hO9.same sA).same sBC
  refine ⟨⟨t, m3, _, _, rfl, rfl, sqT (sBC _ _ hAt), sqT hC, Prs.cons ⟨wd, e0, [], [], fun _ => 0, fun _ => 0, rfl, rfl, sBC _ _ hAw, sC _ _ hBe, rfl, by simp⟩ (Prs.cons (dic_eq (sBC _ _ hAo) CC.od fun k _ => by rw [N.got_congr hSet.aft]) (Prs.cons (dic_eq (sBC _ _ hAs) CC.lt fun k hk => by rw [hSet.aft k hk]) Prs.nil))⟩, fun HD eD => ?_⟩
  have eD' : Same HC HD := eD
  walk_at "w"
  refine ssx_nil ?_
  exact next f ord HD (CC.same eD') ⟨_, _, _, _, _, hOC.same eD'⟩ hSet
end
end K1
namespace K1
open PySem PySem.Spec L2
open PyProof.Rows hiding St
local macro_rules | `(tactic| walk_at "hp") => `(tactic| first | assumption | exact upd_same)
local macro_rules | `(tactic| walk_at "sq") => `(tactic| first | assumption | exact sqL (by assumption) | exact sqT (by assumption))
local macro_rules | `(tactic| walk_at "w1") => `(tactic| first
  | with_reducible refine w_asg ?_
  | with_reducible refine w_c ?_
  | with_reducible refine w_gname ?_
  | with_reducible refine w_if ?_
  | with_reducible refine w_ifs ?_
  | with_reducible refine w_test ?_
  | with_reducible refine w_tB ?_
  | with_reducible refine w_bl ?_
  | with_reducible refine w_op ?_
  | with_reducible refine w_nil ?_
  | with_reducible refine w_cons ?_
  | with_reducible refine w_cb ?_
  | with_reducible refine w_I0 ?_
  | with_reducible refine w_lst ?_
  | with_reducible refine w_tup ?_
  | with_reducible refine w_sl ?_
  | with_reducible refine w_noPart ?_
  | with_reducible refine w_part ?_
  | with_reducible refine w_int ?_
  | with_reducible refine w_par ?_
  | with_reducible refine w_two ?_
  | with_reducible refine w_par3 ?_
  | with_reducible refine w_three ?_
  | with_reducible refine w_ret ?_
  | with_reducible refine w_drop ?_
  | with_reducible refine w_chain ?_
  | with_reducible refine w_and ?_
  | with_reducible refine w_or ?_
  | with_reducible refine w_not ?_
  | with_reducible refine w_notV ?_
  | with_reducible refine w_andV ?_
  | with_reducible refine w_orV ?_
  | with_reducible refine w_int1 ?_
  | with_reducible refine w_true ?_
  | with_reducible refine w_false ?_
  | with_reducible refine w_for ?_
  | with_reducible refine w_rng1 ?_
  | with_reducible refine w_rng2 ?_
  | with_reducible refine w_iList ?_
  | with_reducible refine w_iTup ?_
  | with_reducible refine w_dget ?_
  | with_reducible refine w_din ?_
  | with_reducible refine w_dnotin ?_
  | with_reducible refine w_dput ?_
  | with_reducible refine w_dget2 ?_
  | with_reducible refine w_fld ?_
  | with_reducible refine w_dnew ?_
  | with_reducible refine w_lc ?_
  | with_reducible refine w_dc ?_
  | with_reducible refine w_iStr ?_
  | with_reducible refine w_str ?_
  | with_reducible refine w_iEnum ?_
  | with_reducible refine w_iZip ?_
  | with_reducible refine w_yes ?_
  | with_reducible refine w_gtup ?_
  | with_reducible refine w_gcons ?_
  | with_reducible refine w_rcons ?_
  | with_reducible refine w_gnil ?_
  | with_reducible refine w_leS ?_
  | with_reducible refine w_isN ?_
  | with_reducible refine w_notN ?_
  | with_reducible refine w_call ?_
  | with_reducible refine w_meth ?_
  | with_reducible refine w_bm ?_
  | with_reducible refine w_bm0 ?_
  | with_reducible refine isi_int ?_
  | with_reducible refine isi_bl_int ?_
  | with_reducible refine isi_int_bl ?_
  | with_reducible refine isi_bl ?_
  | with_reducible refine isi_str ?_
  | with_reducible refine isi_non_dict ?_
  | with_reducible refine isi_int_dict ?_
  | with_reducible refine w_ntrue ?_
  | with_reducible refine w_nfalse ?_
  | with_reducible refine w_wt ?_
  | with_reducible refine w_starD ?_
  | with_reducible refine w_starT ?_
  | with_reducible refine w_listVals ?_
  | with_reducible refine w_iEnumT ?_
  | with_reducible refine w_iEnumS ?_
  | with_reducible refine w_enumS ?_
  | with_reducible refine w_frz ?_
  | with_reducible refine w_iItems ?_
  | with_reducible refine w_iKeys ?_
  | with_reducible refine w_iVals ?_
  | with_reducible refine w_strS ?_
  | with_reducible refine w_daug ?_
  | with_reducible refine w_rAdd ?_
  | with_reducible refine w_sfld ?_
  | ((with_reducible refine' w_var ?wsd ?_); (case wsd => first | rfl | assumption))
  | ((with_reducible refine' w_eq ?wsd ?_); (case wsd => rfl))
  | ((with_reducible refine' w_ne ?wsd ?_); (case wsd => rfl))
  | ((with_reducible refine' w_lenL ?wsd ?_); (case wsd => walk_at "sq"))
  | ((with_reducible refine' w_lenT ?wsd ?_); (case wsd => walk_at "sq"))
  | ((with_reducible refine' w_itL ?wsd ?_); (case wsd => walk_at "sq"))
  | ((with_reducible refine' w_itT ?wsd ?_); (case wsd => walk_at "sq"))
  | ((with_reducible refine' w_rng1v ?wsd ?_); (case wsd => omega))
  | ((with_reducible refine' w_rng2v ?wsd ?_); (case wsd => omega))
  | ((with_reducible refine' w_I ?wsd ?_); (case wsd => walk_at "side"))
  | ((with_reducible refine' w_dtrue ?wsd ?_); (case wsd => first | assumption | omega | rfl | decide))
  | ((with_reducible refine' w_dfalse ?wsd ?_); (case wsd => first | assumption | omega | decide))
  | ((with_reducible refine' w_ndtrue ?wsd ?_); (case wsd => first | assumption | omega | rfl | decide))
  | ((with_reducible refine' w_ndfalse ?wsd ?_); (case wsd => first | assumption | omega | decide))
  | ((with_reducible refine' w_stD ?wsd ?_); (case wsd => walk_at "hp"))
  | ((with_reducible refine' w_stT ?wsd ?_); (case wsd => walk_at "sq"))
  | ((with_reducible refine' w_stL ?wsd ?_); (case wsd => walk_at "sq"))
  | ((with_reducible refine' w_isD ?wsd ?_); (case wsd => walk_at "hp"))
  | ((with_reducible refine' isi_tup ?wsd ?_); (case wsd => walk_at "sq"))
  | ((with_reducible refine' isi_dict ?wsd ?_); (case wsd => walk_at "hp"))
  | ((with_reducible refine' w_lenDv ?wsd ?_); (case wsd => walk_at "hp"))
  | ((with_reducible refine' w_enum ?wsd ?_); (case wsd => walk_at "sq"))
  | ((with_reducible refine' w_enumT ?wsd ?_); (case wsd => walk_at "sq"))
  | ((with_reducible refine' w_tyL ?wsd ?_); (case wsd => walk_at "sq")))
local macro_rules | `(tactic| walk_at "side") => `(tactic| first | omega | decide | (constructor <;> omega) | (constructor <;> decide) | (simp only [List.length_map, List.length_append, List.length_cons, List.length_nil, CDivN, CMul, CPow]; first | omega | decide | (constructor <;> omega)))
local macro_rules | `(tactic| walk_at "w") => `(tactic| repeat (walk_at "w1"))
theorem w_getLk {H H2 : Hp} {Q : VK} {x c : Addr} {o : Obj} {u : HO} {ks : List Str} {f : Str → V} {k : Str} (hc : H c = some u) (h : H x = some (.dK (mapK ks f))) (s : Same (upd H c (.frz o u)) H2) (hk : k ∈ ks) (q : Q (f k) H2) : RGet (.ref x) (.str k) H2 Q := by
  by_cases e : x = c
  · subst e
    rw [h] at hc
    cases hc
    exact w_getKf (s _ _ frz_at) hk q
  · exact w_getK (s _ _ (by rw [upd_ne e]; exact h)) hk q
section
variable {P : Program} {w : World} {K : PySem.W.Frag} {mg : Str → Option Value} {base : Heap} {cdv : Value} {A : Around} {outer : List Env} {s : Shared} {H H1 : Hp} {E : XK} {Q : VK} {N : NetD} {bl p0 us : Str → Nat} {sc d ia p bd sd tk od lt f : Addr} {ord : List (Str × Nat)}
theorem law_C (T : TX K mg) (hr : LR 8 K cdv A s) (hP : LawP N bl p0 us) (C : LawC K H1 N bl p0 us d ia p bd sd tk od lt) (hS : SetO K H1 f N p0 us ord)
    (next : ∀ f1 f2 H2, LawC K H2 N bl p0 us d ia p bd sd tk od lt → SetO K H2 f N p0 us ord → SSX (LX P w K mg base cdv A outer s H E) ((defBody s_law).drop 15) (LD Q)
      [some (.ref sc), some (.ref d), some (.ref ia), some (.ref p), none, some (.ref sd), some (.ref bd), some (.ref tk), some (.ref od), some (.ref lt), some (.bl true), some (.ref f), some (.ref f1), some (.ref f2), none, none, none, none, none] H2) :
    SSX (LX P w K mg base cdv A outer s H E) ((defBody s_law).drop 12) (LD Q)
      [some (.ref sc), some (.ref d), some (.ref ia), some (.ref p), none, some (.ref sd), some (.ref bd), some (.ref tk), some (.ref od), some (.ref lt), some (.bl true), some (.ref f), none, none, none, none, none, none, none] H1 := by
  have hok := hP.ok
  have hln := hok.len
  have hu := hu_of hr
  have O_settle := @ok_settle P w K mg base T
  have hpN : Passes (L2.CX P w) (LX P w K mg base cdv A outer s H E) (fun _ _ _ => False) := passN
  obtain ⟨us1, hf1⟩ := full_part hok (w0 := bsum N bl ["i"]) (fun k _ => by rw [bsum_split]; omega) hP.full
  obtain ⟨us2, hf2, hsum⟩ := full_then hok (w0 := bsum N bl ["i"]) (w1 := bsum N bl ["j", "a"]) (fun k _ => bsum_split N bl k) hP.full hf1
  refine ssx_cons (ps_set (i := 12) sc_law.nd rfl (Or.inr rfl) (pe_callF O_settle (hr.mono (by decide)) rfl T.g_settle hpN (pa_cons (pv 3) (pa_cons (pe_disp (pps_cons pe_str (pe_dget hu (pv 6) pe_str (fun _ _ => rfl)) pps_nil) rfl rfl (fun z => by cases z) (by decide)) (pa_cons (pv 5) pa_nil))))) ?_
  walk_at "w"
  intro r1 hr1
  have sa : Same H1 (upd H1 r1 (.dK [])) := Same.alloc hr1
  have ha : (upd H1 r1 (.dK [])) r1 = some (.dK []) := upd_same
  generalize upd H1 r1 (.dK []) = Ha at *
  refine w_c ?_
  walk_at "w"
  refine w_getI (sa _ _ C.bls.1) (by simp) ?_
  refine ⟨ha, [((Sum.inr ("i" : Str) : Key), V.int (bl "i" : Int))], rfl, by simp, ?_⟩
  have s2 : Same H1 (upd Ha r1 (.dK (mergeK [] [((Sum.inr ("i" : Str) : Key), V.int (bl "i" : Int))]))) := Same.mut sa hr1
  have h2 : (upd Ha r1 (.dK (mergeK [] [((Sum.inr ("i" : Str) : Key), V.int (bl "i" : Int))]))) r1 = some (DI ["i"] fun k => (bl k : Int)) := by rw [upd_same, merge_one]; rfl
  generalize upd Ha r1 (.dK (mergeK [] [((Sum.inr ("i" : Str) : Key), V.int (bl "i" : Int))])) = H2 at *
  have C2 := C.same s2
  have hS2 := hS.same s2
  clear ha sa s2 C hS
  walk_at "w"
  refine ⟨p, N, .ref r1, .ref sd, rfl, C2.net, hok, .inr ⟨hP.en, .inr ⟨r1, ["i"], bl, rfl, ⟨h2, by simp, fun k hk => ?_⟩, .inr ⟨p0, us1, .inr ⟨sd, rfl, C2.st⟩, hf1, fun f1 ord1 H3 s3 hS1 _ => ?_⟩⟩⟩⟩
  · obtain rfl := List.mem_singleton.mp hk
    exact ⟨by decide +kernel, .inl rfl⟩
  have C3 := C2.same s3
  have hS3 := hS2.same s3
  clear C2 hS2 s3 h2
  obtain ⟨td1, od1, st1, ol1, dx1, hO1⟩ := hS1
  walk_at "w"
  refine ssx_cons (ps_set (i := 13) sc_law.nd rfl (Or.inr rfl) (pe_callF O_settle (hr.mono (by decide)) rfl T.g_settle hpN (pa_cons (pv 3) (pa_cons (pe_disp (pps_cons pe_str (pe_dget hu (pv 6) pe_str (fun _ _ => rfl)) (pps_cons pe_str (pe_dget hu (pv 6) pe_str (fun _ _ => rfl)) pps_nil)) rfl rfl (fun z => by cases z) (by decide)) (pa_cons (q_fld K (pv 12) rfl) pa_nil))))) ?_
  walk_at "w"
  intro r2 hr2
  have sa : Same H3 (upd H3 r2 (.dK [])) := Same.alloc hr2
  have ha : (upd H3 r2 (.dK [])) r2 = some (.dK []) := upd_same
  generalize upd H3 r2 (.dK []) = Ha at *
  refine w_c ?_
  walk_at "w"
  refine w_getI (sa _ _ C3.bls.1) (by simp) ?_
  refine w_c ?_
  walk_at "w"
  refine w_getI (sa _ _ C3.bls.1) (by simp) ?_
  refine ⟨ha, [((Sum.inr ("j" : Str) : Key), V.int (bl "j" : Int)), (Sum.inr ("a" : Str), V.int (bl "a" : Int))], rfl, by simp, ?_⟩
  have s4 : Same H3 (upd Ha r2 (.dK (mergeK [] [((Sum.inr ("j" : Str) : Key), V.int (bl "j" : Int)), (Sum.inr ("a" : Str), V.int (bl "a" : Int))]))) := Same.mut sa hr2
  have h4 : (upd Ha r2 (.dK (mergeK [] [((Sum.inr ("j" : Str) : Key), V.int (bl "j" : Int)), (Sum.inr ("a" : Str), V.int (bl "a" : Int))]))) r2 = some (DI ["j", "a"] fun k => (bl k : Int)) := by
    rw [upd_same, show [((Sum.inr ("j" : Str) : Key), V.int (bl "j" : Int)), (Sum.inr ("a" : Str), V.int (bl "a" : Int))] = mapK ["j", "a"] fun k => V.int (bl k : Int) from rfl, merge_new _ _ (by decide +kernel)]
  generalize upd Ha r2 (.dK (mergeK [] [((Sum.inr ("j" : Str) : Key), V.int (bl "j" : Int)), (Sum.inr ("a" : Str), V.int (bl "a" : Int))])) = H4 at *
  have C4 := C3.same s4
  have hS4 := hS3.same s4
  have hO4 := hO1.same s4
  obtain ⟨ks0, hsd0, _, _, hplt⟩ := id C4.st
  clear ha sa s4 C3 hS3 hO1
  walk_at "w"
  refine w_sstanding T hO4 ?_
  walk_at "w"
  refine ⟨p, N, .ref r2, .ref st1, rfl, C4.net, hok, .inr ⟨hP.en, .inr ⟨r2, ["j", "a"], bl, rfl, ⟨h4, by simp, fun k hk => ?_⟩, .inr ⟨fun k => N.plc k (p0 k) (us1 k), us2, .inr ⟨st1, rfl, N.names, hO4.hst, rfl, fun _ h => h, fun k hk => N.plc_lt (hok.pos hk) (hplt k hk) (us1 k)⟩, hf2, fun f2 ord2 H5 s5 hS2 _ => ?_⟩⟩⟩⟩
  · rcases List.mem_cons.mp hk with rfl | hk
    · exact ⟨by decide +kernel, .inr (.inl rfl)⟩
    · obtain rfl := List.mem_singleton.mp hk
      exact ⟨by decide +kernel, .inr (.inr hok.a_in)⟩
  have C5 := C4.same s5
  have hS5 := hS4.same s5
  have hO5 := hO4.same s5
  clear C4 hS4 hO4 s5 h4 hsd0
  obtain ⟨td2, od2, st2, ol2, dx2, hP5⟩ := hS2
  walk_at "w"
  refine ssx_cons (ps_if (PW.pt (pw_or (pt_cmpR (op_neDic (Nat.lt_of_succ_lt hu)) (q_fld K (pv 13) rfl) (pv 9) (nomark _)) (pw_or1 (pt_cmpR (op_neDic (Nat.lt_of_succ_lt hu)) (pe_callTy (q_dictP K rfl) rfl T.f_dict bt_dict (pa_cons (pe_lock (pe_lc (own := [("_law_name", 4)]) rfl sc_law.nd (pi_keys (pv 8)) (blkOk_by (N := N_law) (sc := defScope s_law) (by decide +kernel)) (fun _ _ _ _ _ => (pg_name (i := 4) sc_law.nd rfl (Or.inl rfl))) (fun _ _ _ _ _ => pts_nil) (fun _ _ _ _ _ => (pe_tup (pa_cons (pv 4) (pa_cons (pe_op op_add (pe_dget hu (q_fld K (pv 12) rfl) (pv 4) (fun _ _ => rfl)) (pe_dget hu (q_fld K (pv 13) rfl) (pv 4) (fun _ _ => rfl))) pa_nil)))))) pa_nil)) (pv 8) (nomark _))))) SSX.ps SSX.ps) ?_
  walk_at "w"
  refine w_sstanding T hP5 ?_
  walk_at "w"
  refine ⟨dic_eq hP5.hst C5.lt fun k hk => by rw [← N.plc_add, hsum k hk], fun H6 e6 => ?_⟩
  have e6' : Same H5 H6 := e6
  have C6 := C5.same e6'
  have hS6 := hS5.same e6'
  have hO6 := hO5.same e6'
  have hP6 := hP5.same e6'
  clear C5 hS5 hO5 hP5 e6 e6'
  walk_at "w"
  refine w_lockE C6.od fun oo => ?_
  walk_at "w"
  refine w_kys frz_at ?_
  have hgot : ∀ k, N.got p0 us k = N.got p0 us1 k + N.got (fun k => N.plc k (p0 k) (us1 k)) us2 k := fun k => by rw [← got_then]; exact N.got_congr (fun x hx => (hsum x hx).symm) k
  have hf1o : f1 ≠ od := fun z => by have := hO6.ob; rw [z, C6.od] at this; cases this
  have hf2o : f2 ≠ od := fun z => by have := hP6.ob; rw [z, C6.od] at this; cases this
  refine rlcP walk_ks ["o", "p"] (fun k => .int (N.got p0 us k : Int)) rfl (by simp) (fun H' s' => s' _ _ frz_at) ?_ ?_
  · rintro i y _ H7 k hi hk s7 ⟨rfl, k0, hk0, rfl⟩ KT KF hKT
    rw [hk] at hk0; cases hk0
    have hkm := List.mem_of_getElem? hk
    walk_at "w"
    refine ⟨rfl, ?_⟩
    walk_at "w"
    refine w_rfld (s7 _ _ (by rw [upd_ne hf1o]; exact hO6.ob)) T.c_Settled T.n_Settled_out lks_out ?_
    walk_at "w"
    refine w_getLk C6.od hO6.hod s7 hkm ?_
    walk_at "w"
    refine w_rfld (s7 _ _ (by rw [upd_ne hf2o]; exact hP6.ob)) T.c_Settled T.n_Settled_out lks_out ?_
    walk_at "w"
    refine w_getLk C6.od hP6.hod s7 hkm ?_
    walk_at "w"
    refine w_newT (by simp) fun q H8 hq s8 h8 => ?_
    refine hKT _ _ s8 ?_
    rw [h8, hgot]
    simp
  intro D qs H7 hD s7 h7D hP7
  refine ⟨s7 _ _ frz_at, ?_⟩
  have hDo : D ≠ od := fun z => by rw [z, upd_same] at hD; cases hD
  have h7o := s7 _ _ (frz_at (H := H6) (a := od) (o := oo))
  have s8 : Same H6 (upd H7 od (DI ["o", "p"] fun k => (N.got p0 us k : Int))) := Same.unlock C6.od s7
  have h8D : upd H7 od (DI ["o", "p"] fun k => (N.got p0 us k : Int)) D = some (.lst (qs.map V.ref)) := by rw [upd_ne hDo]; exact h7D
  have hP8 : Paired (PrAt K (upd H7 od (DI ["o", "p"] fun k => (N.got p0 us k : Int))) fun k => .int (N.got p0 us k : Int)) qs ["o", "p"] := paired_imp hP7 fun q _ e => sqT (by rw [upd_ne (fun z => by rw [z, h7o] at e; cases e)]; exact e)
  have C8 := C6.same s8
  have hS8 := hS6.same s8
  generalize upd H7 od (DI ["o", "p"] fun k => (N.got p0 us k : Int)) = H8 at *
  walk_at "w"
  refine w_dictPs (sqL h8D) hP8 (by decide +kernel) fun r H9 hr9 s9 h9 => ?_
  walk_at "w"
  have C9 := C8.same s9
  refine ⟨dic_eq h9 C9.od fun _ _ => rfl, fun HA eA => ?_⟩
  have eA' : Same H9 HA := eA
  walk_at "w"
  refine ssx_nil ?_
  exact next f1 f2 HA (C9.same eA') ((hS8.same s9).same eA')
end
end K1
namespace K1
open PySem PySem.Spec L2
open PyProof.Rows hiding St
local macro_rules | `(tactic| walk_at "hp") => `(tactic| first | assumption | exact upd_same)
local macro_rules | `(tactic| walk_at "sq") => `(tactic| first | assumption | exact sqL (by assumption) | exact sqT (by assumption))
local macro_rules | `(tactic| walk_at "w1") => `(tactic| first
  | with_reducible refine w_asg ?_
  | with_reducible refine w_c ?_
  | with_reducible refine w_gname ?_
  | with_reducible refine w_if ?_
  | with_reducible refine w_ifs ?_
  | with_reducible refine w_test ?_
  | with_reducible refine w_tB ?_
  | with_reducible refine w_bl ?_
  | with_reducible refine w_op ?_
  | with_reducible refine w_nil ?_
  | with_reducible refine w_cons ?_
  | with_reducible refine w_cb ?_
  | with_reducible refine w_I0 ?_
  | with_reducible refine w_lst ?_
  | with_reducible refine w_tup ?_
  | with_reducible refine w_sl ?_
  | with_reducible refine w_noPart ?_
  | with_reducible refine w_part ?_
  | with_reducible refine w_int ?_
  | with_reducible refine w_par ?_
  | with_reducible refine w_two ?_
  | with_reducible refine w_par3 ?_
  | with_reducible refine w_three ?_
  | with_reducible refine w_ret ?_
  | with_reducible refine w_drop ?_
  | with_reducible refine w_chain ?_
  | with_reducible refine w_and ?_
  | with_reducible refine w_or ?_
  | with_reducible refine w_not ?_
  | with_reducible refine w_notV ?_
  | with_reducible refine w_andV ?_
  | with_reducible refine w_orV ?_
  | with_reducible refine w_int1 ?_
  | with_reducible refine w_true ?_
  | with_reducible refine w_false ?_
  | with_reducible refine w_for ?_
  | with_reducible refine w_rng1 ?_
  | with_reducible refine w_rng2 ?_
  | with_reducible refine w_iList ?_
  | with_reducible refine w_iTup ?_
  | with_reducible refine w_dget ?_
  | with_reducible refine w_din ?_
  | with_reducible refine w_dnotin ?_
  | with_reducible refine w_dput ?_
  | with_reducible refine w_dget2 ?_
  | with_reducible refine w_fld ?_
  | with_reducible refine w_dnew ?_
  | with_reducible refine w_lc ?_
  | with_reducible refine w_dc ?_
  | with_reducible refine w_iStr ?_
  | with_reducible refine w_str ?_
  | with_reducible refine w_iEnum ?_
  | with_reducible refine w_iZip ?_
  | with_reducible refine w_yes ?_
  | with_reducible refine w_gtup ?_
  | with_reducible refine w_gcons ?_
  | with_reducible refine w_rcons ?_
  | with_reducible refine w_gnil ?_
  | with_reducible refine w_leS ?_
  | with_reducible refine w_isN ?_
  | with_reducible refine w_notN ?_
  | with_reducible refine w_call ?_
  | with_reducible refine w_meth ?_
  | with_reducible refine w_bm ?_
  | with_reducible refine w_bm0 ?_
  | with_reducible refine isi_int ?_
  | with_reducible refine isi_bl_int ?_
  | with_reducible refine isi_int_bl ?_
  | with_reducible refine isi_bl ?_
  | with_reducible refine isi_str ?_
  | with_reducible refine isi_non_dict ?_
  | with_reducible refine isi_int_dict ?_
  | with_reducible refine w_ntrue ?_
  | with_reducible refine w_nfalse ?_
  | with_reducible refine w_wt ?_
  | with_reducible refine w_starD ?_
  | with_reducible refine w_starT ?_
  | with_reducible refine w_listVals ?_
  | with_reducible refine w_iEnumT ?_
  | with_reducible refine w_iEnumS ?_
  | with_reducible refine w_enumS ?_
  | with_reducible refine w_frz ?_
  | with_reducible refine w_iItems ?_
  | with_reducible refine w_iKeys ?_
  | with_reducible refine w_iVals ?_
  | with_reducible refine w_strS ?_
  | with_reducible refine w_daug ?_
  | with_reducible refine w_rAdd ?_
  | with_reducible refine w_sfld ?_
  | ((with_reducible refine' w_var ?wsd ?_); (case wsd => first | rfl | assumption))
  | ((with_reducible refine' w_eq ?wsd ?_); (case wsd => rfl))
  | ((with_reducible refine' w_ne ?wsd ?_); (case wsd => rfl))
  | ((with_reducible refine' w_lenL ?wsd ?_); (case wsd => walk_at "sq"))
  | ((with_reducible refine' w_lenT ?wsd ?_); (case wsd => walk_at "sq"))
  | ((with_reducible refine' w_itL ?wsd ?_); (case wsd => walk_at "sq"))
  | ((with_reducible refine' w_itT ?wsd ?_); (case wsd => walk_at "sq"))
  | ((with_reducible refine' w_rng1v ?wsd ?_); (case wsd => omega))
  | ((with_reducible refine' w_rng2v ?wsd ?_); (case wsd => omega))
  | ((with_reducible refine' w_I ?wsd ?_); (case wsd => walk_at "side"))
  | ((with_reducible refine' w_dtrue ?wsd ?_); (case wsd => first | assumption | omega | rfl | decide))
  | ((with_reducible refine' w_dfalse ?wsd ?_); (case wsd => first | assumption | omega | decide))
  | ((with_reducible refine' w_ndtrue ?wsd ?_); (case wsd => first | assumption | omega | rfl | decide))
  | ((with_reducible refine' w_ndfalse ?wsd ?_); (case wsd => first | assumption | omega | decide))
  | ((with_reducible refine' w_stD ?wsd ?_); (case wsd => walk_at "hp"))
  | ((with_reducible refine' w_stT ?wsd ?_); (case wsd => walk_at "sq"))
  | ((with_reducible refine' w_stL ?wsd ?_); (case wsd => walk_at "sq"))
  | ((with_reducible refine' w_isD ?wsd ?_); (case wsd => walk_at "hp"))
  | ((with_reducible refine' isi_tup ?wsd ?_); (case wsd => walk_at "sq"))
  | ((with_reducible refine' isi_dict ?wsd ?_); (case wsd => walk_at "hp"))
  | ((with_reducible refine' w_lenDv ?wsd ?_); (case wsd => walk_at "hp"))
  | ((with_reducible refine' w_enum ?wsd ?_); (case wsd => walk_at "sq"))
  | ((with_reducible refine' w_enumT ?wsd ?_); (case wsd => walk_at "sq"))
  | ((with_reducible refine' w_tyL ?wsd ?_); (case wsd => walk_at "sq")))
local macro_rules | `(tactic| walk_at "side") => `(tactic| first | omega | decide | (constructor <;> omega) | (constructor <;> decide) | (simp only [List.length_map, List.length_append, List.length_cons, List.length_nil, CDivN, CMul, CPow]; first | omega | decide | (constructor <;> omega)))
local macro_rules | `(tactic| walk_at "w") => `(tactic| repeat (walk_at "w1"))
section
variable {P : Program} {w : World} {K : PySem.W.Frag} {mg : Str → Option Value} {base : Heap} {cdv : Value} {A : Around} {outer : List Env} {s : Shared} {H H1 : Hp} {E : XK} {Q : VK} {N : NetD} {bl p0 us : Str → Nat} {sc d ia p bd sd tk od lt f f1 f2 : Addr} {ord : List (Str × Nat)}
theorem law_D (T : TX K mg) (hr : LR 8 K cdv A s) (hP : LawP N bl p0 us) (C : LawC K H1 N bl p0 us d ia p bd sd tk od lt) (hS : SetO K H1 f N p0 us ord)
    (next : ∀ tu H2, LawC K H2 N bl p0 us d ia p bd sd tk od lt → SetO K H2 f N p0 us ord → SSX (LX P w K mg base cdv A outer s H E) ((defBody s_law).drop 18) (LD Q)
      [some (.ref sc), some (.ref d), some (.ref ia), some (.ref p), none, some (.ref sd), some (.ref bd), some (.ref tk), some (.ref od), some (.ref lt), some (.bl true), some (.ref f), some (.ref f1), some (.ref f2), some (.ref tu), none, none, none, none] H2) :
    SSX (LX P w K mg base cdv A outer s H E) ((defBody s_law).drop 15) (LD Q)
      [some (.ref sc), some (.ref d), some (.ref ia), some (.ref p), none, some (.ref sd), some (.ref bd), some (.ref tk), some (.ref od), some (.ref lt), some (.bl true), some (.ref f), some (.ref f1), some (.ref f2), none, none, none, none, none] H1 := by
  have hok := hP.ok
  have hln := hok.len
  have hu := hu_of hr
  have O_turns := @ok_turns P w K mg base T
  have O_law_waiting := @ok_law_waiting P w K mg base T
  have hpN : Passes (L2.CX P w) (LX P w K mg base cdv A outer s H E) (fun _ _ _ => False) := passN
  refine ssx_cons (ps_set (i := 14) sc_law.nd rfl (Or.inr rfl) (pe_listG (k := 4) (E := fun _ _ _ => False) (pgen_callF O_turns (hr.mono (by decide)) rfl T.g_knots_in_turn (pa_cons (pv 3) (pa_cons (pv 6) (pa_cons (pv 5) pa_nil)))) hpN (fun _ _ _ z => z.elim) (hr.mono (by decide)) rfl T.f_list bt_list)) ?_
  walk_at "w"
  refine w_listG ?_
  walk_at "w"
  refine ⟨p, bd, .ref sd, N, lks, bl, p0, us, rfl, C.net, hok, hP.en, C.bls, .inr ⟨sd, rfl, C.st⟩, hP.full, fun zs H2 s2 hT tu htu => ?_⟩
  have s3 : Same H2 (upd H2 tu (.lst (zs.map V.str))) := Same.alloc htu
  have h3 : (upd H2 tu (.lst (zs.map V.str))) tu = some (.lst (zs.map V.str)) := upd_same
  have C3 := (C.same s2).same s3
  have hS3 := (hS.same s2).same s3
  generalize upd H2 tu (.lst (zs.map V.str)) = H3 at *
  clear C hS s2 s3 htu
  have hzl := hT.few
  walk_at "w"
  refine ssx_cons (ps_if (pt_cmpR (op_neDic (Nat.lt_of_succ_lt hu)) (pe_callTy (q_dictP K rfl) rfl T.f_dict bt_dict (pa_cons (pe_lock (pe_lc (own := [("_law_name", 4)]) rfl sc_law.nd (pi_keys (pv 7)) (blkOk_by (N := N_law) (sc := defScope s_law) (by decide +kernel)) (fun _ _ _ _ _ => (pg_name (i := 4) sc_law.nd rfl (Or.inr rfl))) (fun _ _ _ _ _ => pts_nil) (fun _ _ _ _ _ => (pe_tup (pa_cons (pv 4) (pa_cons (pe_callB (q_len K) rfl T.f_len bb_len (pa_cons (pe_lc (own := [("_law_one", 18)]) rfl sc_law.nd (qi_list K (pv 14)) (blkOk_by (by kernel_rfl)) (fun _ _ _ _ _ => (pg_name (i := 18) sc_law.nd rfl (Or.inl rfl))) (fun _ _ _ _ _ => (pts_one (pt_cmpR op_eq (pv 18) (pv 4) (nomark _)))) (fun _ _ _ _ _ => pe_int)) pa_nil)) pa_nil)))))) pa_nil)) (pv 7) (nomark _)) SSX.ps SSX.ps) ?_
  walk_at "w"
  refine w_lockE C3.tk fun oo => ?_
  walk_at "w"
  refine w_kys frz_at ?_
  have htt : tu ≠ tk := fun z => by have := C3.tk; rw [← z, h3] at this; cases this
  refine rlcP walk_ks N.names (fun k => .int (us k : Int)) rfl (by omega) (fun H' s' => s' _ _ frz_at) ?_ ?_
  · rintro i y _ H4 k hi hk s4 ⟨rfl, k0, hk0, rfl⟩ KT KF hKT
    rw [hk] at hk0; cases hk0
    have hkm := List.mem_of_getElem? hk
    have h4t : H4 tu = some (.lst (zs.map V.str)) := s4 _ _ (by rw [upd_ne htt]; exact h3)
    walk_at "w"
    refine ⟨rfl, ?_⟩
    walk_at "w"
    refine rlcV (walk_list (xs := zs.map V.str)) (fun i acc => acc.length = (zs.take i).count k) (by rw [List.length_map]; omega) (fun H' s' => sqL (s' _ _ h4t)) (by simp) ?_ ?_
    · rintro j acc x _ H5 hj _ s5 hacc ⟨rfl, hx⟩ KT2 KF2 hKT2 hKF2
      obtain ⟨z, hz, rfl⟩ := map_get hx
      walk_at "w"
      refine ⟨rfl, ?_⟩
      walk_at "w"
      refine w_dcases (fun he => ?_) fun he => ?_
      · walk_at "w"
        have he' : z = k := by simpa using he
        refine hKT2 _ _ (Same.refl _) ?_
        rw [take_snoc hz, List.count_append, List.length_append, hacc, he']
        simp
      · have he' : ¬ z = k := by simpa using he
        refine hKF2 _ (Same.refl _) ?_
        rw [take_snoc hz, List.count_append, hacc]
        simp [List.count_singleton, he']
    · rintro D2 acc H5 hD2 s5 h5 hl5 hacc
      rw [List.length_map, List.take_length] at hacc
      walk_at "w"
      rw [hacc, hT.count k hkm]
      refine w_newT (by simp) fun q H6 hq s6 h6 => ?_
      exact hKT _ _ (s5.trans s6) h6
  intro D qs H4 hD s4 h4D hP4
  refine ⟨s4 _ _ frz_at, ?_⟩
  have hDo : D ≠ tk := fun z => by rw [z, upd_same] at hD; cases hD
  have h4o := s4 _ _ (frz_at (H := H3) (a := tk) (o := oo))
  have s5 : Same H3 (upd H4 tk (DI N.names fun k => (us k : Int))) := Same.unlock C3.tk s4
  have h5D : upd H4 tk (DI N.names fun k => (us k : Int)) D = some (.lst (qs.map V.ref)) := by rw [upd_ne hDo]; exact h4D
  have hP5 : Paired (PrAt K (upd H4 tk (DI N.names fun k => (us k : Int))) fun k => .int (us k : Int)) qs N.names := paired_imp hP4 fun q _ e => sqT (by rw [upd_ne (fun z => by rw [z, h4o] at e; cases e)]; exact e)
  have C5 := C3.same s5
  have hS5 := hS3.same s5
  have h5t := s5 _ _ h3
  generalize upd H4 tk (DI N.names fun k => (us k : Int)) = H5 at *
  clear C3 hS3 h3 s4 h4D hP4 h4o s5 hD
  walk_at "w"
  refine w_dictPs (sqL h5D) hP5 hok.nodup fun r H6 hr6 s6 h6 => ?_
  walk_at "w"
  have C6 := C5.same s6
  refine ⟨dic_eq h6 C6.tk fun _ _ => rfl, fun H7 e7 => ?_⟩
  have e7' : Same H6 H7 := e7
  have C7 := C6.same e7'
  have hS7 := (hS5.same s6).same e7'
  have h7t := (s6.trans e7') _ _ h5t
  clear C5 C6 hS5 h5t h5D hP5 s6 h6 e7 e7'
  walk_at "w"
  refine ssx_nil ?_
  refine ssx_cons (ps_if (PW.pt (pw_and (pt_cmpR (q_neD K hr.units) (pv 14) (pe_lst pa_nil) (nomark _)) (pw_and1 (pt_cmpR op_ne (pe_ix (q_ixL K) (pv 14) pe_int (fun _ _ => rfl)) (pe_callB (q_minS K rfl hr.units) rfl T.f_min bb_min (pa_cons (pe_lc (own := [("_law_name", 4), ("_law_many", 15)]) rfl sc_law.nd (pi_items (pe_frz (pe_callF O_law_waiting (hr.mono (by decide)) rfl T.g__law_waiting pass0 (pa_cons (pv 2) (pa_cons (pv 6) pa_nil))))) (blkOk_by (N := N_law) (sc := defScope s_law) (by decide +kernel)) (fun _ _ _ _ _ => (qg_tup (n := 2) K rfl (pgs_cons (pg_name (i := 4) sc_law.nd rfl (Or.inl rfl)) (pgs_cons (pg_name (i := 15) sc_law.nd rfl (Or.inl rfl)) pgs_nil)))) (fun _ _ _ _ _ => (pts_one (pt_cmpR op_gt (pv 15) pe_int (nomark _)))) (fun _ _ _ _ _ => (pv 4))) pa_nil)) (nomark _))))) SSX.ps SSX.ps) ?_
  walk_at "w"
  refine w_newL (by simp) fun e0 H8 he0 s8 h8 => ?_
  have C8 := C7.same s8
  have hS8 := hS7.same s8
  have h8t := s8 _ _ h7t
  refine w_neNilL (sqL h8t) (sqL h8) (DL.strs zs fun x hx => names_ltr hok x (hT.names x hx)) ?_
  walk_at "w"
  cases zs with
  | nil =>
    refine w_false ?_
    walk_at "w"
    refine ssx_nil ?_
    exact next tu H8 C8 hS8
  | cons z r =>
    refine w_true ?_
    walk_at "w"
    refine w_ixL (v := .str z) (sqL h8t) (atI_nat (j := 0) rfl) ?_
    walk_at "w"
    refine ⟨ia, bd, N, lks, bl, rfl, C8.il, C8.bls, hok, by decide +kernel, fun rw_ ws H9 s9 hrw h9 hz9 hnd9 hwn9 => ?_⟩
    walk_at "w"
    refine w_frzD h9 fun oo2 => ?_
    walk_at "w"
    refine w_itm frz_at ?_
    have hwl : ws.length ≤ 4 := Nat.le_trans (List.Nodup.length_le_of_subset hnd9 hwn9) hln.2
    refine rlcV walk_its (fun i acc => acc = ((ws.take i).filter fun k => decide (0 < (bsum N bl lks k : Int))).map V.str) (by omega) (fun H' s' => s' _ _ frz_at) rfl ?_ ?_
    · rintro i acc x HA HA' hi _ sA rfl ⟨T2, y, rfl, hT2, rfl, hy⟩ KT KF hKT hKF
      refine g_pair ?_
      refine ⟨rfl, ?_⟩
      have sB : Same HA (upd HA T2 (.tup [.str y, .int (bsum N bl lks y : Int)])) := Same.alloc hT2
      generalize upd HA T2 (.tup [.str y, .int (bsum N bl lks y : Int)]) = HB at *
      walk_at "w"
      refine w_dcases (fun hlt => ?_) fun hlt => ?_
      · walk_at "w"
        refine hKT _ _ sB ?_
        rw [take_snoc hy, List.filter_append, List.map_append]
        simp at hlt
        simp [hlt]
      · refine hKF _ sB ?_
        rw [take_snoc hy, List.filter_append, List.map_append]
        simp at hlt
        simp [hlt]
    · rintro D acc HA hD sA hA hlA hacc
      rw [List.take_length] at hacc
      subst hacc
      obtain ⟨l1, l2, hsp, hl1, hpos⟩ := hT.first z r rfl
      have hzn : z ∈ N.names := hT.names z (List.mem_cons_self ..)
      have hzw : z ∈ ws.filter fun k => decide (0 < (bsum N bl lks k : Int)) := by
        rw [List.mem_filter]
        refine ⟨?_, by simpa using hpos⟩
        by_cases h : z ∈ ws
        · exact h
        · have : (bsum N bl lks z : Int) = 0 := hz9 z h
          omega
      have hall : ∀ k ∈ ws.filter fun k => decide (0 < (bsum N bl lks k : Int)), k ∈ N.names ∧ 0 < bsum N bl lks k := fun k hk => by
        rw [List.mem_filter] at hk
        exact ⟨hwn9 k hk.1, by simpa using hk.2⟩
      have s8A : Same H8 HA := fun b o e => sA _ _ (by rw [upd_ne (fun q => by rw [q, hrw] at e; cases e)]; exact s9 _ _ e)
      generalize ws.filter (fun k => decide (0 < (bsum N bl lks k : Int))) = fl at *
      cases fl with
      | nil => cases hzw
      | cons x0 xr =>
        walk_at "w"
        refine ⟨D, x0, xr, rfl, sqL hA, fun m hm hml => ?_⟩
        obtain rfl := first_least hok hsp hl1 hall hzw hm hml
        walk_at "w"
        refine ssx_nil ?_
        exact next tu HA (C8.same s8A) (hS8.same s8A)
end
end K1
namespace K1
open PySem PySem.Spec L2
open PyProof.Rows hiding St
theorem cut_last (xs : List V) : cutV xs none (some (-1)) = xs.dropLast := by
  unfold cutV
  rw [HT.sIx_none, List.drop_zero, Nat.sub_zero]
  have e : HT.sIx xs.length xs.length (some (-1)) = xs.length - 1 := by
    unfold HT.sIx
    simp
    omega
  rw [e, List.dropLast_eq_take]
theorem paired_last {α β : Type} {F : α → β → Prop} : ∀ {xs : List α} {ys : List β}, Paired F xs ys → Paired F xs.dropLast ys.dropLast
  | _, _, .nil => .nil
  | _, _, .cons _ .nil => .nil
  | _, _, .cons r (.cons r2 t) => .cons r (paired_last (.cons r2 t))
theorem dl_ord {K : PySem.W.Frag} {H : Hp} {qs : List Addr} {ord : List (Str × Nat)} (h : Paired (PairAt K H) qs ord) : (∀ e ∈ ord, PyData.strOk e.1 = true) → DL K H (qs.map V.ref) (ord.map fun e => .tuple [.str e.1, .int e.2]) := by
  induction h with
  | nil => exact fun _ => DL.nil
  | @cons q e qs ord a t ih =>
    intro hs
    refine DL.cons (.tup a (.cons (.str _) (.cons (.int _) .nil))) ?_ ?_ (ih fun x hx => hs x (List.mem_cons_of_mem _ hx))
    · simp [PyData.canLay0, PyData.canLayAll0, hs e (List.mem_cons_self ..)]
    · simp [PyData.depth, PyData.depthAll]
theorem settled_mk {K : PySem.W.Frag} {H : Hp} {N : NetD} {p0 us : Str → Nat} {tk od lt l : Addr} {qs : List Addr} {ord : List (Str × Nat)} {R : Addr → Hp → Prop} {E : XK} (htk : H tk = some (DI N.names fun k => (us k : Int))) (hod : H od = some (DI ["o", "p"] fun k => (N.got p0 us k : Int))) (hlt : H lt = some (DI N.names fun k => (N.plc k (p0 k) (us k) : Int)))
    (hl : SqL K H l (qs.map V.ref) ∨ SqT K H l (qs.map V.ref)) (hP : Paired (PairAt K H) qs ord) (k : ∀ s' H', Same H H' → H s' = none → SetO K H' s' N p0 us ord → R s' H') : ∀ x dx, H x = none → H dx = none → dx ≠ x → spSettledInit K (V.ref x :: ([.ref tk, .ref od, .ref lt, .ref l] ++ [])) (upd (upd H dx (.own x)) x (.ins (He.ga K "Settled") dx [])) (fun v H2 => v = .non ∧ R x H2) E := by
  intro x dx hx hdx hne
  exact ⟨x, tk, od, lt, l, dx, N, H, p0, us, qs, ord, rfl, upd_same, hx, Same.mut (Same.alloc hdx) hx, htk, hod, hlt, hl, hP, fun H5 s5 hS => ⟨rfl, k x H5 s5 hx hS⟩⟩
theorem w_make {C : Addr} {sp : Sp} {dvs : List V} {E : XK} {t : TA} {σ : L2.St} {H : Hp} {Q : VK} (h : t σ H fun vs H1 => ∀ x dx, H1 x = none → H1 dx = none → dx ≠ x → sp (V.ref x :: (vs ++ dvs)) (upd (upd H1 dx (.own x)) x (.ins C dx [])) (fun v H2 => v = .non ∧ Q (.ref x) H2) E) : tMake C sp dvs E t σ H Q := h
end K1
namespace K1
open PySem PySem.Spec L2
open PyProof.Rows hiding St
local macro_rules | `(tactic| walk_at "hp") => `(tactic| first | assumption | exact upd_same)
local macro_rules | `(tactic| walk_at "sq") => `(tactic| first | assumption | exact sqL (by assumption) | exact sqT (by assumption))
local macro_rules | `(tactic| walk_at "w1") => `(tactic| first
  | with_reducible refine w_asg ?_
  | with_reducible refine w_c ?_
  | with_reducible refine w_gname ?_
  | with_reducible refine w_if ?_
  | with_reducible refine w_ifs ?_
  | with_reducible refine w_test ?_
  | with_reducible refine w_tB ?_
  | with_reducible refine w_bl ?_
  | with_reducible refine w_op ?_
  | with_reducible refine w_nil ?_
  | with_reducible refine w_cons ?_
  | with_reducible refine w_cb ?_
  | with_reducible refine w_I0 ?_
  | with_reducible refine w_lst ?_
  | with_reducible refine w_tup ?_
  | with_reducible refine w_sl ?_
  | with_reducible refine w_noPart ?_
  | with_reducible refine w_part ?_
  | with_reducible refine w_int ?_
  | with_reducible refine w_par ?_
  | with_reducible refine w_two ?_
  | with_reducible refine w_par3 ?_
  | with_reducible refine w_three ?_
  | with_reducible refine w_ret ?_
  | with_reducible refine w_drop ?_
  | with_reducible refine w_chain ?_
  | with_reducible refine w_and ?_
  | with_reducible refine w_or ?_
  | with_reducible refine w_not ?_
  | with_reducible refine w_notV ?_
  | with_reducible refine w_andV ?_
  | with_reducible refine w_orV ?_
  | with_reducible refine w_int1 ?_
  | with_reducible refine w_true ?_
  | with_reducible refine w_false ?_
  | with_reducible refine w_for ?_
  | with_reducible refine w_rng1 ?_
  | with_reducible refine w_rng2 ?_
  | with_reducible refine w_iList ?_
  | with_reducible refine w_iTup ?_
  | with_reducible refine w_dget ?_
  | with_reducible refine w_din ?_
  | with_reducible refine w_dnotin ?_
  | with_reducible refine w_dput ?_
  | with_reducible refine w_dget2 ?_
  | with_reducible refine w_fld ?_
  | with_reducible refine w_dnew ?_
  | with_reducible refine w_lc ?_
  | with_reducible refine w_dc ?_
  | with_reducible refine w_iStr ?_
  | with_reducible refine w_str ?_
  | with_reducible refine w_iEnum ?_
  | with_reducible refine w_iZip ?_
  | with_reducible refine w_yes ?_
  | with_reducible refine w_gtup ?_
  | with_reducible refine w_gcons ?_
  | with_reducible refine w_rcons ?_
  | with_reducible refine w_gnil ?_
  | with_reducible refine w_leS ?_
  | with_reducible refine w_isN ?_
  | with_reducible refine w_notN ?_
  | with_reducible refine w_call ?_
  | with_reducible refine w_meth ?_
  | with_reducible refine w_bm ?_
  | with_reducible refine w_bm0 ?_
  | with_reducible refine isi_int ?_
  | with_reducible refine isi_bl_int ?_
  | with_reducible refine isi_int_bl ?_
  | with_reducible refine isi_bl ?_
  | with_reducible refine isi_str ?_
  | with_reducible refine isi_non_dict ?_
  | with_reducible refine isi_int_dict ?_
  | with_reducible refine w_ntrue ?_
  | with_reducible refine w_nfalse ?_
  | with_reducible refine w_wt ?_
  | with_reducible refine w_starD ?_
  | with_reducible refine w_starT ?_
  | with_reducible refine w_listVals ?_
  | with_reducible refine w_iEnumT ?_
  | with_reducible refine w_iEnumS ?_
  | with_reducible refine w_enumS ?_
  | with_reducible refine w_frz ?_
  | with_reducible refine w_iItems ?_
  | with_reducible refine w_iKeys ?_
  | with_reducible refine w_iVals ?_
  | with_reducible refine w_strS ?_
  | with_reducible refine w_daug ?_
  | with_reducible refine w_rAdd ?_
  | with_reducible refine w_sfld ?_
  | ((with_reducible refine' w_var ?wsd ?_); (case wsd => first | rfl | assumption))
  | ((with_reducible refine' w_eq ?wsd ?_); (case wsd => rfl))
  | ((with_reducible refine' w_ne ?wsd ?_); (case wsd => rfl))
  | ((with_reducible refine' w_lenL ?wsd ?_); (case wsd => walk_at "sq"))
  | ((with_reducible refine' w_lenT ?wsd ?_); (case wsd => walk_at "sq"))
  | ((with_reducible refine' w_itL ?wsd ?_); (case wsd => walk_at "sq"))
  | ((with_reducible refine' w_itT ?wsd ?_); (case wsd => walk_at "sq"))
  | ((with_reducible refine' w_rng1v ?wsd ?_); (case wsd => omega))
  | ((with_reducible refine' w_rng2v ?wsd ?_); (case wsd => omega))
  | ((with_reducible refine' w_I ?wsd ?_); (case wsd => walk_at "side"))
  | ((with_reducible refine' w_dtrue ?wsd ?_); (case wsd => first | assumption | omega | rfl | decide))
  | ((with_reducible refine' w_dfalse ?wsd ?_); (case wsd => first | assumption | omega | decide))
  | ((with_reducible refine' w_ndtrue ?wsd ?_); (case wsd => first | assumption | omega | rfl | decide))
  | ((with_reducible refine' w_ndfalse ?wsd ?_); (case wsd => first | assumption | omega | decide))
  | ((with_reducible refine' w_stD ?wsd ?_); (case wsd => walk_at "hp"))
  | ((with_reducible refine' w_stT ?wsd ?_); (case wsd => walk_at "sq"))
  | ((with_reducible refine' w_stL ?wsd ?_); (case wsd => walk_at "sq"))
  | ((with_reducible refine' w_isD ?wsd ?_); (case wsd => walk_at "hp"))
  | ((with_reducible refine' isi_tup ?wsd ?_); (case wsd => walk_at "sq"))
  | ((with_reducible refine' isi_dict ?wsd ?_); (case wsd => walk_at "hp"))
  | ((with_reducible refine' w_lenDv ?wsd ?_); (case wsd => walk_at "hp"))
  | ((with_reducible refine' w_enum ?wsd ?_); (case wsd => walk_at "sq"))
  | ((with_reducible refine' w_enumT ?wsd ?_); (case wsd => walk_at "sq"))
  | ((with_reducible refine' w_tyL ?wsd ?_); (case wsd => walk_at "sq")))
local macro_rules | `(tactic| walk_at "side") => `(tactic| first | omega | decide | (constructor <;> omega) | (constructor <;> decide) | (simp only [List.length_map, List.length_append, List.length_cons, List.length_nil, CDivN, CMul, CPow]; first | omega | decide | (constructor <;> omega)))
local macro_rules | `(tactic| walk_at "w") => `(tactic| repeat (walk_at "w1"))
section
variable {P : Program} {w : World} {K : PySem.W.Frag} {mg : Str → Option Value} {base : Heap} {cdv : Value} {A : Around} {outer : List Env} {s : Shared} {H H1 : Hp} {E : XK} {Q : VK} {N : NetD} {bl p0 us : Str → Nat} {sc d ia p bd sd tk od lt f f1 f2 tu : Addr} {ord : List (Str × Nat)}
theorem law_E (T : TX K mg) (B : BoOk P K) (hr : LR 8 K cdv A s) (hP : LawP N bl p0 us) (C : LawC K H1 N bl p0 us d ia p bd sd tk od lt) (hS : SetO K H1 f N p0 us ord) (hSet : Settles N (bsum N bl lks) p0 us ord)
    (next : ∀ (o4 o15 : Option V) H2, LawC K H2 N bl p0 us d ia p bd sd tk od lt → SetO K H2 f N p0 us ord → SSX (LX P w K mg base cdv A outer s H E) ((defBody s_law).drop 19) (LD Q)
      [some (.ref sc), some (.ref d), some (.ref ia), some (.ref p), o4, some (.ref sd), some (.ref bd), some (.ref tk), some (.ref od), some (.ref lt), some (.bl true), some (.ref f), some (.ref f1), some (.ref f2), some (.ref tu), o15, none, none, none] H2) :
    SSX (LX P w K mg base cdv A outer s H E) ((defBody s_law).drop 18) (LD Q)
      [some (.ref sc), some (.ref d), some (.ref ia), some (.ref p), none, some (.ref sd), some (.ref bd), some (.ref tk), some (.ref od), some (.ref lt), some (.bl true), some (.ref f), some (.ref f1), some (.ref f2), some (.ref tu), none, none, none, none] H1 := by
  have hok := hP.ok
  have hln := hok.len
  have hu := hu_of hr
  have hB : BadRule P K mg := bad_rule T B
  have O_Settled_init := @ok_Settled_init P w K mg base T
  have O_Settled_shows := @ok_Settled_shows P w K mg base T hB
  have O_played := @ok_played P w K mg base T hB
  have O_law_waiting := @ok_law_waiting P w K mg base T
  obtain ⟨td', od', st', ol', dx', hOb⟩ := id hS
  obtain ⟨qs, hol, hPq⟩ := id hOb.hol
  have hql := paired_len hPq
  refine ssx_cons (ps_if (pt_cmpR (q_neD K hr.units) (q_fld K (pv 11) rfl) (pe_lst pa_nil) (nomark _)) SSX.ps SSX.ps) ?_
  walk_at "w"
  refine w_sorder T hOb ?_
  walk_at "w"
  refine w_newL (by simp) fun e0 H2 he0 s2 h2 => ?_
  have C2 := C.same s2
  have hO2 := hOb.same s2
  have hol2 := s2 _ _ hol
  have hPq2 : Paired (PairAt K H2) qs ord := paired_imp hPq fun _ _ e => Same.sqt s2 e
  refine w_neNilL (sqL hol2) (sqL h2) (dl_ord hPq2 fun e he => names_ltr hok e.1 (hSet.names e he).1) ?_
  clear C hS hOb hol hPq s2 h2
  walk_at "w"
  have hop : ord.length ≤ 5000 := by
    have a2 := tot_aft hok ord zu hSet.names
    have a3 := tot_le (N := N) (u := aft zu ord) (v := us) fun k hk => Nat.le_of_eq (hSet.aft k hk)
    have a4 := hP.full.few
    omega
  cases ord with
  | nil =>
    have : qs = [] := List.length_eq_zero_iff.mp hql
    subst this
    refine w_false ?_
    refine ssx_nil ?_
    exact next none none H2 C2 ⟨_, _, _, _, _, hO2⟩
  | cons e1 er =>
    obtain ⟨k1, m1⟩ := e1
    obtain ⟨q1, qr, rfl⟩ : ∃ q1 qr, qs = q1 :: qr := by
      cases qs with
      | nil => cases hql
      | cons a b => exact ⟨a, b, rfl⟩
    refine w_true ?_
    have hne : ((k1, m1) :: er) ≠ [] := by simp
    obtain ⟨hlegL, hnamL, hposL⟩ := early_of hSet hne
    have hm1 := hSet.names (k1, m1) (List.mem_cons_self ..)
    have hfst : m1 = bsum N bl lks k1 := hSet.first (k1, m1) er rfl
    refine ssx_cons (ps_if (pt_val (pe_methF (pe_makeF T.mk_Settled O_Settled_init (hr.mono (by decide)) rfl T.g_Settled pass0 (pa_cons (pv 7) (pa_cons (pv 8) (pa_cons (pv 9) (pa_cons (pe_slice (q_slL K) (q_fld K (pv 11) rfl) po_none (po_some (pe_un un_neg pe_int))) pa_nil))))) T.c_Settled T.m_Settled_shows O_Settled_shows (hr.mono (by decide)) pass0 (pa_cons (pv 3) (pa_cons (pv 6) (pa_cons (pv 5) pa_nil))))) SSX.ps SSX.ps) ?_
    walk_at "w"
    refine w_make ?_
    walk_at "w"
    refine w_sorder T hO2 ?_
    walk_at "w"
    refine ⟨1, rfl, ?_⟩
    walk_at "w"
    refine w_slL (sqL hol2) fun l3 H3 hl3 s3 h3 => ?_
    rw [cut_last, ← List.map_dropLast] at h3
    have C3 := C2.same s3
    have hO3 := hO2.same s3
    have hol3 := s3 _ _ hol2
    have hPq3 : Paired (PairAt K H3) (q1 :: qr) ((k1, m1) :: er) := paired_imp hPq2 fun _ _ e => Same.sqt s3 e
    clear C2 hO2 hol2 hPq2 s3
    walk_at "w"
    refine settled_mk C3.tk C3.od C3.lt (.inl (sqL h3)) (paired_last hPq3) fun s4 H4 e4 _ hS4 => ?_
    have C4 := C3.same e4
    have hO4 := hO3.same e4
    have hol4 := e4 _ _ hol3
    have hPq4 : Paired (PairAt K H4) (q1 :: qr) ((k1, m1) :: er) := paired_imp hPq3 fun _ _ e => Same.sqt e4 e
    clear C3 hO3 hol3 hPq3 e4 h3
    walk_at "w"
    obtain ⟨t4, o4, x4, y4, z4, hOb4⟩ := id hS4
    refine w_rmeth hOb4.ob lks_shows ?_
    walk_at "w"
    refine ⟨s4, p, bd, .ref sd, N, lks, bl, p0, us, _, rfl, C4.net, hok, C4.bls, .inr ⟨sd, rfl, C4.st⟩, hS4, hnamL, .inr (.inl ⟨hlegL, hposL, fun H5 s5 => ?_⟩)⟩
    have C5 := C4.same s5
    have hO5 := hO4.same s5
    have hol5 := s5 _ _ hol4
    have hPq5 : Paired (PairAt K H5) (q1 :: qr) ((k1, m1) :: er) := paired_imp hPq4 fun _ _ e => Same.sqt s5 e
    clear C4 hO4 hol4 hPq4 s5 hS4 hOb4
    walk_at "w"
    refine ssx_nil ?_
    refine ssx_cons (ps_if (pt_val (pe_methF (pe_makeF T.mk_Settled O_Settled_init (hr.mono (by decide)) rfl T.g_Settled pass0 (pa_cons (pv 7) (pa_cons (pv 8) (pa_cons (pv 9) (pa_cons (pe_op op_cat (q_fld K (pv 11) rfl) (pe_lst (pa_cons (pe_tup (pa_cons pe_str (pa_cons pe_int pa_nil))) pa_nil))) pa_nil))))) T.c_Settled T.m_Settled_shows O_Settled_shows (hr.mono (by decide)) pass0 (pa_cons (pv 3) (pa_cons (pv 6) (pa_cons (pv 5) pa_nil))))) SSX.ps SSX.ps) ?_
    walk_at "w"
    refine w_make ?_
    walk_at "w"
    refine w_sorder T hO5 ?_
    walk_at "w"
    refine w_newT (by simp) fun q6 H6 hq6 s6 h6 => ?_
    walk_at "w"
    refine w_newL (by simp) fun l7 H7 hl7 s7 h7 => ?_
    have s67 := s6.trans s7
    refine ⟨ol', l7, _, _, rfl, rfl, s67 _ _ hol5, h7, sz (by simp only [List.length_map, List.length_cons, List.length_nil] at hql hop ⊢; omega), fun l8 hl8 => ?_⟩
    have s8 : Same H7 (upd H7 l8 (.lst ((q1 :: qr).map V.ref ++ [.ref q6]))) := Same.alloc hl8
    have h8 : (upd H7 l8 (.lst ((q1 :: qr).map V.ref ++ [.ref q6]))) l8 = some (.lst (((q1 :: qr) ++ [q6]).map V.ref)) := by rw [upd_same, List.map_append]; rfl
    have s58 := s67.trans s8
    have h6' := (s7.trans s8) _ _ h6
    generalize upd H7 l8 (.lst ((q1 :: qr).map V.ref ++ [.ref q6])) = H8 at *
    have C8 := C5.same s58
    have hO8 := hO5.same s58
    have hol8 := s58 _ _ hol5
    have hPq8 : Paired (PairAt K H8) (q1 :: qr) ((k1, m1) :: er) := paired_imp hPq5 fun _ _ e => Same.sqt s58 e
    clear C5 hO5 hol5 hPq5 s58 s67 s6 s7 s8 h6 h7
    walk_at "w"
    refine settled_mk C8.tk C8.od C8.lt (.inl (sqL h8)) (paired_snoc (y := (("a" : Str), 1)) hPq8 (sqT h6')) fun s9 H9 e9 _ hS9 => ?_
    have C9 := C8.same e9
    have hO9 := hO8.same e9
    have hol9 := e9 _ _ hol8
    have hPq9 : Paired (PairAt K H9) (q1 :: qr) ((k1, m1) :: er) := paired_imp hPq8 fun _ _ e => Same.sqt e9 e
    clear C8 hO8 hol8 hPq8 e9 h8 h6'
    walk_at "w"
    obtain ⟨t9, o9, x9, y9, z9, hOb9⟩ := id hS9
    refine w_rmeth hOb9.ob lks_shows ?_
    walk_at "w"
    refine ⟨s9, p, bd, .ref sd, N, lks, bl, p0, us, _, rfl, C9.net, hok, C9.bls, .inr ⟨sd, rfl, C9.st⟩, hS9, fun e he => ?_, .inr (.inr ⟨⟨(k1, m1) :: er, (("a" : Str), 1), [], rfl, hSet.legal, ?_⟩, fun HA sA => ?_⟩)⟩
    · rcases List.mem_append.mp he with he | he
      · exact hSet.names e he
      · rw [List.mem_singleton.mp he]; exact ⟨hok.a_in, Nat.le_refl _⟩
    · have := restO_of hSet hP.full "a" hok.a_in
      show N.wt (bsum N bl lks) p0 (aft zu ((k1, m1) :: er)) "a" < ((1 : Nat) : Int)
      omega
    have CA := C9.same sA
    have hOA := hO9.same sA
    have holA := sA _ _ hol9
    have hPqA : Paired (PairAt K HA) (q1 :: qr) ((k1, m1) :: er) := paired_imp hPq9 fun _ _ e => Same.sqt sA e
    clear C9 hO9 hol9 hPq9 sA hS9 hOb9
    walk_at "w"
    refine ssx_nil ?_
    refine ssx_cons (ps_asg (pe_ix (q_ixL K) (q_fld K (pv 11) rfl) pe_int (fun _ _ => rfl)) (qg_tup (n := 2) K rfl (pgs_cons (pg_name (i := 4) sc_law.nd rfl (Or.inl rfl)) (pgs_cons (pg_name (i := 15) sc_law.nd rfl (Or.inl rfl)) pgs_nil)))) ?_
    walk_at "w"
    refine w_sorder T hOA ?_
    walk_at "w"
    refine w_ixL (v := .ref q1) (sqL holA) (atI_nat (j := 0) rfl) ?_
    have hq1 : SqT K HA q1 [.str k1, .int m1] := by
      cases hPqA with
      | cons r _ => exact r
    refine w_tu hq1 rfl ?_
    walk_at "w"
    refine ssx_cons (ps_tryAs (i := 16) (Wout := fun _ _ _ _ => False) rfl rfl sc_law.nd rfl rfl ⟨rfl, rfl, .inl T.g_BadOrder⟩ takes_none) ?_
    intro pn xe tk' po
    refine ssx_cons (ps_expr (pe_callFS O_played (hr.mono (by decide)) rfl T.g_played (passAt tk') (pa_cons (pv 3) (pa_cons (pv 6) (pa_cons (pe_lst (pa_cons (pe_tup (pa_cons (pv 4) (pa_cons (pe_op op_add (pv 15) pe_int) pa_nil))) pa_nil)) (pa_cons (pv 5) pa_nil)))))) ?_
    walk_at "w"
    refine w_callSD ?_
    walk_at "w"
    refine w_newT (by simp) fun qB HB hqB sB hBq => ?_
    walk_at "w"
    refine w_newL (by simp) fun lC HC hlC sC hCl => ?_
    walk_at "w"
    have CC := (CA.same sB).same sC
    have hOC := (hOA.same sB).same sC
    refine ⟨p, bd, lC, .ref sd, N, lks, bl, p0, [(k1, m1 + 1)], rfl, CC.net, hok, CC.bls, .inr ⟨sd, rfl, CC.st⟩, ⟨[qB], hCl, .cons (sqT (sC _ _ hBq)) .nil⟩, fun e he => ?_, .inr ⟨[], (k1, m1 + 1), [], rfl, trivial, ?_, fun dd HD sD hdd hDd => ?_⟩⟩
    · rw [List.mem_singleton.mp he]; exact ⟨hm1.1, Nat.le_add_left _ _⟩
    · have : N.wt (bsum N bl lks) p0 zu k1 = (bsum N bl lks k1 : Int) := wt_zero
      show N.wt (bsum N bl lks) p0 zu k1 < ((m1 + 1 : Nat) : Int)
      rw [this, ← hfst]
      omega
    refine ⟨true, T.x_BadOrder, fun _ a ha oe pn2 hz hf => ?_, fun z => nomatch z⟩
    refine ssx_cons (ps_if (pt_cmpR op_ne (pe_xf (X := LX P w K mg base cdv A outer s H E) (C := bC K) B.xf B.noPlace hz hf (pv 16)) pe_int (nomark _)) SSX.ps SSX.ps) ?_
    walk_at "w"
    refine w_var rfl ?_
    refine ⟨rfl, rfl, dd, _, .int 0, rfl, hDd, by simp, ?_⟩
    walk_at "w"
    refine ssx_nil (ssx_nil (ssx_nil ?_))
    exact next (some (.str k1)) (some (.int m1)) HD (CC.same sD) ⟨_, _, _, _, _, hOC.same sD⟩
end
end K1
namespace K1
open PySem PySem.Spec L2
open PyProof.Rows hiding St
local macro_rules | `(tactic| walk_at "hp") => `(tactic| first | assumption | exact upd_same)
local macro_rules | `(tactic| walk_at "sq") => `(tactic| first | assumption | exact sqL (by assumption) | exact sqT (by assumption))
local macro_rules | `(tactic| walk_at "w1") => `(tactic| first
  | with_reducible refine w_asg ?_
  | with_reducible refine w_c ?_
  | with_reducible refine w_gname ?_
  | with_reducible refine w_if ?_
  | with_reducible refine w_ifs ?_
  | with_reducible refine w_test ?_
  | with_reducible refine w_tB ?_
  | with_reducible refine w_bl ?_
  | with_reducible refine w_op ?_
  | with_reducible refine w_nil ?_
  | with_reducible refine w_cons ?_
  | with_reducible refine w_cb ?_
  | with_reducible refine w_I0 ?_
  | with_reducible refine w_lst ?_
  | with_reducible refine w_tup ?_
  | with_reducible refine w_sl ?_
  | with_reducible refine w_noPart ?_
  | with_reducible refine w_part ?_
  | with_reducible refine w_int ?_
  | with_reducible refine w_par ?_
  | with_reducible refine w_two ?_
  | with_reducible refine w_par3 ?_
  | with_reducible refine w_three ?_
  | with_reducible refine w_ret ?_
  | with_reducible refine w_drop ?_
  | with_reducible refine w_chain ?_
  | with_reducible refine w_and ?_
  | with_reducible refine w_or ?_
  | with_reducible refine w_not ?_
  | with_reducible refine w_notV ?_
  | with_reducible refine w_andV ?_
  | with_reducible refine w_orV ?_
  | with_reducible refine w_int1 ?_
  | with_reducible refine w_true ?_
  | with_reducible refine w_false ?_
  | with_reducible refine w_for ?_
  | with_reducible refine w_rng1 ?_
  | with_reducible refine w_rng2 ?_
  | with_reducible refine w_iList ?_
  | with_reducible refine w_iTup ?_
  | with_reducible refine w_dget ?_
  | with_reducible refine w_din ?_
  | with_reducible refine w_dnotin ?_
  | with_reducible refine w_dput ?_
  | with_reducible refine w_dget2 ?_
  | with_reducible refine w_fld ?_
  | with_reducible refine w_dnew ?_
  | with_reducible refine w_lc ?_
  | with_reducible refine w_dc ?_
  | with_reducible refine w_iStr ?_
  | with_reducible refine w_str ?_
  | with_reducible refine w_iEnum ?_
  | with_reducible refine w_iZip ?_
  | with_reducible refine w_yes ?_
  | with_reducible refine w_gtup ?_
  | with_reducible refine w_gcons ?_
  | with_reducible refine w_rcons ?_
  | with_reducible refine w_gnil ?_
  | with_reducible refine w_leS ?_
  | with_reducible refine w_isN ?_
  | with_reducible refine w_notN ?_
  | with_reducible refine w_call ?_
  | with_reducible refine w_meth ?_
  | with_reducible refine w_bm ?_
  | with_reducible refine w_bm0 ?_
  | with_reducible refine isi_int ?_
  | with_reducible refine isi_bl_int ?_
  | with_reducible refine isi_int_bl ?_
  | with_reducible refine isi_bl ?_
  | with_reducible refine isi_str ?_
  | with_reducible refine isi_non_dict ?_
  | with_reducible refine isi_int_dict ?_
  | with_reducible refine w_ntrue ?_
  | with_reducible refine w_nfalse ?_
  | with_reducible refine w_wt ?_
  | with_reducible refine w_starD ?_
  | with_reducible refine w_starT ?_
  | with_reducible refine w_listVals ?_
  | with_reducible refine w_iEnumT ?_
  | with_reducible refine w_iEnumS ?_
  | with_reducible refine w_enumS ?_
  | with_reducible refine w_frz ?_
  | with_reducible refine w_iItems ?_
  | with_reducible refine w_iKeys ?_
  | with_reducible refine w_iVals ?_
  | with_reducible refine w_strS ?_
  | with_reducible refine w_daug ?_
  | with_reducible refine w_rAdd ?_
  | with_reducible refine w_sfld ?_
  | ((with_reducible refine' w_var ?wsd ?_); (case wsd => first | rfl | assumption))
  | ((with_reducible refine' w_eq ?wsd ?_); (case wsd => rfl))
  | ((with_reducible refine' w_ne ?wsd ?_); (case wsd => rfl))
  | ((with_reducible refine' w_lenL ?wsd ?_); (case wsd => walk_at "sq"))
  | ((with_reducible refine' w_lenT ?wsd ?_); (case wsd => walk_at "sq"))
  | ((with_reducible refine' w_itL ?wsd ?_); (case wsd => walk_at "sq"))
  | ((with_reducible refine' w_itT ?wsd ?_); (case wsd => walk_at "sq"))
  | ((with_reducible refine' w_rng1v ?wsd ?_); (case wsd => omega))
  | ((with_reducible refine' w_rng2v ?wsd ?_); (case wsd => omega))
  | ((with_reducible refine' w_I ?wsd ?_); (case wsd => walk_at "side"))
  | ((with_reducible refine' w_dtrue ?wsd ?_); (case wsd => first | assumption | omega | rfl | decide))
  | ((with_reducible refine' w_dfalse ?wsd ?_); (case wsd => first | assumption | omega | decide))
  | ((with_reducible refine' w_ndtrue ?wsd ?_); (case wsd => first | assumption | omega | rfl | decide))
  | ((with_reducible refine' w_ndfalse ?wsd ?_); (case wsd => first | assumption | omega | decide))
  | ((with_reducible refine' w_stD ?wsd ?_); (case wsd => walk_at "hp"))
  | ((with_reducible refine' w_stT ?wsd ?_); (case wsd => walk_at "sq"))
  | ((with_reducible refine' w_stL ?wsd ?_); (case wsd => walk_at "sq"))
  | ((with_reducible refine' w_isD ?wsd ?_); (case wsd => walk_at "hp"))
  | ((with_reducible refine' isi_tup ?wsd ?_); (case wsd => walk_at "sq"))
  | ((with_reducible refine' isi_dict ?wsd ?_); (case wsd => walk_at "hp"))
  | ((with_reducible refine' w_lenDv ?wsd ?_); (case wsd => walk_at "hp"))
  | ((with_reducible refine' w_enum ?wsd ?_); (case wsd => walk_at "sq"))
  | ((with_reducible refine' w_enumT ?wsd ?_); (case wsd => walk_at "sq"))
  | ((with_reducible refine' w_tyL ?wsd ?_); (case wsd => walk_at "sq")))
local macro_rules | `(tactic| walk_at "side") => `(tactic| first | omega | decide | (constructor <;> omega) | (constructor <;> decide) | (simp only [List.length_map, List.length_append, List.length_cons, List.length_nil, CDivN, CMul, CPow]; first | omega | decide | (constructor <;> omega)))
local macro_rules | `(tactic| walk_at "w") => `(tactic| repeat (walk_at "w1"))
section
variable {P : Program} {w : World} {K : PySem.W.Frag} {mg : Str → Option Value} {base : Heap} {cdv : Value} {A : Around} {outer : List Env} {s : Shared} {H H1 : Hp} {E : XK} {Q : VK} {N : NetD} {bl p0 us : Str → Nat} {sc d ia p bd sd tk od lt f f1 f2 tu : Addr} {ord : List (Str × Nat)} {o4 o15 : Option V}
theorem law_F (T : TX K mg) (hr : LR 8 K cdv A s) (hP : LawP N bl p0 us) (C : LawC K H1 N bl p0 us d ia p bd sd tk od lt) (hS : SetO K H1 f N p0 us ord) (k : ∀ H', Q (.bl true) H') :
    SSX (LX P w K mg base cdv A outer s H E) ((defBody s_law).drop 19) (LD Q)
      [some (.ref sc), some (.ref d), some (.ref ia), some (.ref p), o4, some (.ref sd), some (.ref bd), some (.ref tk), some (.ref od), some (.ref lt), some (.bl true), some (.ref f), some (.ref f1), some (.ref f2), some (.ref tu), o15, none, none, none] H1 := by
  have hok := hP.ok
  have hu := hu_of hr
  have O_law_refuses := @ok_law_refuses P w K mg base T
  have O_settle1 := @ok_settle1 P w K mg base T
  have O_Settled_init := @ok_Settled_init P w K mg base T
  have O_Settled_eq := @ok_Settled_eq P w K mg base T
  have hpN : Passes (L2.CX P w) (LX P w K mg base cdv A outer s H E) (fun _ _ _ => False) := passN
  refine ssx_cons (ps_if (pt_not (pt_val (pe_callF O_law_refuses (hr.mono (by decide)) rfl T.g__law_refuses pass0 (pa_cons (pv 3) (pa_cons (pv 1) pa_nil))))) SSX.ps SSX.ps) ?_
  walk_at "w"
  refine ⟨p, d, N, rfl, C.net, hok, hP.en, C.kn, fun H2 s2 => ?_⟩
  have C2 := C.same s2
  have hS2 := hS.same s2
  clear C hS s2
  walk_at "w"
  refine ssx_nil ?_
  refine ssx_cons (ps_ret (pe_and (pe_cmpR (q_eqD K hr.units) (q_fld K (pe_callF O_settle1 (hr.mono (by decide)) rfl T.g_settle hpN (pa_cons (pv 3) (pa_cons pe_dnewK pa_nil))) rfl) (pe_lst pa_nil) (nomark _)) (pe_one (pe_cmpR (q_eqSet K T O_Settled_eq (hr.mono (by decide))) (pe_makeF T.mk_Settled O_Settled_init (hr.mono (by decide)) rfl T.g_Settled pass0 (pa_cons (pv 7) (pa_cons (pv 8) (pa_cons (pv 9) (pa_cons (pe_callTy (q_tuple K) rfl T.f_tuple bt_tuple (pa_cons (q_fld K (pv 11) rfl) pa_nil)) pa_nil))))) (pv 11) (nomark _))))) ?_
  walk_at "w"
  refine w_new fun e0 H3 he0 s3 h3 => ?_
  walk_at "w"
  have C3 := C2.same s3
  have hS3 := hS2.same s3
  refine ⟨p, N, .ref e0, .non, rfl, C3.net, hok, .inr ⟨hP.en, .inr ⟨e0, [], bl, rfl, ⟨h3, by simp, by simp⟩, .inr ⟨fun _ => 0, zu, .inl ⟨rfl, rfl⟩, full_none, fun f9 ord9 H4 s4 hS9 hSet9 => ?_⟩⟩⟩⟩
  obtain rfl := settles_none hok hSet9
  obtain ⟨t9, o9, x9, y9, z9, hO9⟩ := hS9
  have C4 := C3.same s4
  have hS4 := hS3.same s4
  clear C2 hS2 C3 hS3 s3 s4 h3
  walk_at "w"
  refine w_sorder T hO9 ?_
  walk_at "w"
  refine w_newL (by simp) fun l5 H5 hl5 s5 h5 => ?_
  obtain ⟨q9, hq9, hP9⟩ := hO9.hol
  have hq0 : q9 = [] := List.length_eq_zero_iff.mp (paired_len hP9)
  subst hq0
  refine w_eqNilL (sqL (s5 _ _ hq9)) (sqL h5) DL.nil ?_
  have C5 := C4.same s5
  have hS5 := hS4.same s5
  clear C4 hS4 s5 h5 hq9 hP9 hO9
  walk_at "w"
  refine w_true ?_
  walk_at "w"
  refine w_make ?_
  obtain ⟨td', od', st', ol', dx', hOb⟩ := id hS5
  obtain ⟨qs, hol, hPq⟩ := id hOb.hol
  walk_at "w"
  refine w_sorder T hOb ?_
  walk_at "w"
  refine w_tupleL (sqL hol) fun l6 H6 hl6 s6 h6 => ?_
  have C6 := C5.same s6
  have hO6 := hOb.same s6
  walk_at "w"
  refine settled_mk C6.tk C6.od C6.lt (.inr (sqT h6)) (paired_imp hPq fun _ _ e => Same.sqt s6 e) fun s7 H7 e7 _ hS7 => ?_
  have hO7 := hO6.same e7
  obtain ⟨t7, o7, x7, y7, z7, hN7⟩ := id hS7
  walk_at "w"
  exact ⟨⟨s7, f, _, _, _, _, rfl, rfl, hN7.ob, hO7.ob, N, p0, us, ord, hS7, _, _, _, _, _, hO7⟩, fun H8 _ => k H8⟩
end
end K1
namespace K1
open PySem PySem.Spec L2
open PyProof.Rows hiding St
local macro_rules | `(tactic| walk_at "hp") => `(tactic| first | assumption | exact upd_same)
local macro_rules | `(tactic| walk_at "sq") => `(tactic| first | assumption | exact sqL (by assumption) | exact sqT (by assumption))
local macro_rules | `(tactic| walk_at "w1") => `(tactic| first
  | with_reducible refine w_asg ?_
  | with_reducible refine w_c ?_
  | with_reducible refine w_gname ?_
  | with_reducible refine w_if ?_
  | with_reducible refine w_ifs ?_
  | with_reducible refine w_test ?_
  | with_reducible refine w_tB ?_
  | with_reducible refine w_bl ?_
  | with_reducible refine w_op ?_
  | with_reducible refine w_nil ?_
  | with_reducible refine w_cons ?_
  | with_reducible refine w_cb ?_
  | with_reducible refine w_I0 ?_
  | with_reducible refine w_lst ?_
  | with_reducible refine w_tup ?_
  | with_reducible refine w_sl ?_
  | with_reducible refine w_noPart ?_
  | with_reducible refine w_part ?_
  | with_reducible refine w_int ?_
  | with_reducible refine w_par ?_
  | with_reducible refine w_two ?_
  | with_reducible refine w_par3 ?_
  | with_reducible refine w_three ?_
  | with_reducible refine w_ret ?_
  | with_reducible refine w_drop ?_
  | with_reducible refine w_chain ?_
  | with_reducible refine w_and ?_
  | with_reducible refine w_or ?_
  | with_reducible refine w_not ?_
  | with_reducible refine w_notV ?_
  | with_reducible refine w_andV ?_
  | with_reducible refine w_orV ?_
  | with_reducible refine w_int1 ?_
  | with_reducible refine w_true ?_
  | with_reducible refine w_false ?_
  | with_reducible refine w_for ?_
  | with_reducible refine w_rng1 ?_
  | with_reducible refine w_rng2 ?_
  | with_reducible refine w_iList ?_
  | with_reducible refine w_iTup ?_
  | with_reducible refine w_dget ?_
  | with_reducible refine w_din ?_
  | with_reducible refine w_dnotin ?_
  | with_reducible refine w_dput ?_
  | with_reducible refine w_dget2 ?_
  | with_reducible refine w_fld ?_
  | with_reducible refine w_dnew ?_
  | with_reducible refine w_lc ?_
  | with_reducible refine w_dc ?_
  | with_reducible refine w_iStr ?_
  | with_reducible refine w_str ?_
  | with_reducible refine w_iEnum ?_
  | with_reducible refine w_iZip ?_
  | with_reducible refine w_yes ?_
  | with_reducible refine w_gtup ?_
  | with_reducible refine w_gcons ?_
  | with_reducible refine w_rcons ?_
  | with_reducible refine w_gnil ?_
  | with_reducible refine w_leS ?_
  | with_reducible refine w_isN ?_
  | with_reducible refine w_notN ?_
  | with_reducible refine w_call ?_
  | with_reducible refine w_meth ?_
  | with_reducible refine w_bm ?_
  | with_reducible refine w_bm0 ?_
  | with_reducible refine isi_int ?_
  | with_reducible refine isi_bl_int ?_
  | with_reducible refine isi_int_bl ?_
  | with_reducible refine isi_bl ?_
  | with_reducible refine isi_str ?_
  | with_reducible refine isi_non_dict ?_
  | with_reducible refine isi_int_dict ?_
  | with_reducible refine w_ntrue ?_
  | with_reducible refine w_nfalse ?_
  | with_reducible refine w_wt ?_
  | with_reducible refine w_starD ?_
  | with_reducible refine w_starT ?_
  | with_reducible refine w_listVals ?_
  | with_reducible refine w_iEnumT ?_
  | with_reducible refine w_iEnumS ?_
  | with_reducible refine w_enumS ?_
  | with_reducible refine w_frz ?_
  | with_reducible refine w_iItems ?_
  | with_reducible refine w_iKeys ?_
  | with_reducible refine w_iVals ?_
  | with_reducible refine w_strS ?_
  | with_reducible refine w_daug ?_
  | with_reducible refine w_rAdd ?_
  | with_reducible refine w_sfld ?_
  | ((with_reducible refine' w_var ?wsd ?_); (case wsd => first | rfl | assumption))
  | ((with_reducible refine' w_eq ?wsd ?_); (case wsd => rfl))
  | ((with_reducible refine' w_ne ?wsd ?_); (case wsd => rfl))
  | ((with_reducible refine' w_lenL ?wsd ?_); (case wsd => walk_at "sq"))
  | ((with_reducible refine' w_lenT ?wsd ?_); (case wsd => walk_at "sq"))
  | ((with_reducible refine' w_itL ?wsd ?_); (case wsd => walk_at "sq"))
  | ((with_reducible refine' w_itT ?wsd ?_); (case wsd => walk_at "sq"))
  | ((with_reducible refine' w_rng1v ?wsd ?_); (case wsd => omega))
  | ((with_reducible refine' w_rng2v ?wsd ?_); (case wsd => omega))
  | ((with_reducible refine' w_I ?wsd ?_); (case wsd => walk_at "side"))
  | ((with_reducible refine' w_dtrue ?wsd ?_); (case wsd => first | assumption | omega | rfl | decide))
  | ((with_reducible refine' w_dfalse ?wsd ?_); (case wsd => first | assumption | omega | decide))
  | ((with_reducible refine' w_ndtrue ?wsd ?_); (case wsd => first | assumption | omega | rfl | decide))
  | ((with_reducible refine' w_ndfalse ?wsd ?_); (case wsd => first | assumption | omega | decide))
  | ((with_reducible refine' w_stD ?wsd ?_); (case wsd => walk_at "hp"))
  | ((with_reducible refine' w_stT ?wsd ?_); (case wsd => walk_at "sq"))
  | ((with_reducible refine' w_stL ?wsd ?_); (case wsd => walk_at "sq"))
  | ((with_reducible refine' w_isD ?wsd ?_); (case wsd => walk_at "hp"))
  | ((with_reducible refine' isi_tup ?wsd ?_); (case wsd => walk_at "sq"))
  | ((with_reducible refine' isi_dict ?wsd ?_); (case wsd => walk_at "hp"))
  | ((with_reducible refine' w_lenDv ?wsd ?_); (case wsd => walk_at "hp"))
  | ((with_reducible refine' w_enum ?wsd ?_); (case wsd => walk_at "sq"))
  | ((with_reducible refine' w_enumT ?wsd ?_); (case wsd => walk_at "sq"))
  | ((with_reducible refine' w_tyL ?wsd ?_); (case wsd => walk_at "sq")))
local macro_rules | `(tactic| walk_at "side") => `(tactic| first | omega | decide | (constructor <;> omega) | (constructor <;> decide) | (simp only [List.length_map, List.length_append, List.length_cons, List.length_nil, CDivN, CMul, CPow]; first | omega | decide | (constructor <;> omega)))
local macro_rules | `(tactic| walk_at "w") => `(tactic| repeat (walk_at "w1"))
section
variable {P : Program} {w : World} {K : PySem.W.Frag} {mg : Str → Option Value} {base : Heap} {cdv : Value} {A : Around} {outer : List Env} {s : Shared} {H : Hp} {E : XK} {Q : VK} {sc : Addr}
theorem law_A (T : TX K mg) (hr : LR 8 K cdv A s) (hS : Scr K H sc) (k : ∀ H', Q (.bl true) H')
    (next : ∀ N bl p0 us d ia p bd sd tk od lt H1, LawP N bl p0 us → LawC K H1 N bl p0 us d ia p bd sd tk od lt → SSX (LX P w K mg base cdv A outer s H E) ((defBody s_law).drop 9) (LD Q)
      [some (.ref sc), some (.ref d), some (.ref ia), some (.ref p), none, some (.ref sd), some (.ref bd), some (.ref tk), some (.ref od), some (.ref lt), some (.bl true), none, none, none, none, none, none, none, none] H1) :
    SSX (LX P w K mg base cdv A outer s H E) (defBody s_law) (LD Q) (L2.start N_law [.ref sc]) H := by
  have hu := hu_of hr
  have O_law_draw := @ok_draw P w K mg base T
  have O_law_knots := @ok_law_knots P w K mg base T
  have O_law_inlets := @ok_law_inlets P w K mg base T
  have O_Net_init := @ok_Net_init P w K mg base T
  have O_law_does_end := @ok_law_does_end P w K mg base T
  have O_law_is_quick := @ok_law_is_quick P w K mg base T
  have O_law_play := @ok_law_play P w K mg base T
  have O_law_waiting := @ok_law_waiting P w K mg base T
  have O_settle1 := @ok_settle1 P w K mg base T
  refine ssx_cons (ps_set (i := 1) sc_law.nd rfl (Or.inr rfl) (pe_callF O_law_knots (hr.mono (by decide)) rfl T.g__law_knots pass0 (pa_cons (pv 0) (pa_cons pe_int (pa_cons (pe_cmpR op_gt (pe_callF O_law_draw (hr.mono (by decide)) rfl T.g__law_draw pass0 (pa_cons (pv 0) (pa_cons pe_int (pa_cons pe_int pa_nil)))) pe_int (nomark _)) pa_nil))))) ?_
  walk_at "w"
  refine draw_use hS ⟨by omega, by omega⟩ ⟨by omega, by omega⟩ fun r0 H1 _ s1 => ?_
  walk_at "w"
  refine ⟨sc, 0, _, rfl, hS.same s1, by omega, by omega, fun N0 d H2 hok0 s2 hkn0 => ?_⟩
  walk_at "w"
  have hS2 := (hS.same s1).same s2
  clear s1 s2
  refine ssx_cons (ps_set (i := 2) sc_law.nd rfl (Or.inl rfl) (pe_callF O_law_inlets (hr.mono (by decide)) rfl T.g__law_inlets pass0 (pa_cons (pv 0) (pa_cons pe_int (pa_cons (pv 1) pa_nil))))) ?_
  walk_at "w"
  refine ⟨sc, d, 5, N0, rfl, hS2, by omega, by omega, hkn0, hok0, fun j ia H3 hj s3 h3 => ?_⟩
  obtain ⟨N, hok, hkn, hil⟩ : ∃ N : NetD, N.Ok ∧ KnotsAt K H3 d N ∧ H3 ia = some (.dK (mapK ["i", "j"] fun k => .str (inl N k))) :=
    ⟨{ N0 with jk := j }, ⟨hok0.nm, hok0.fl, hok0.tl, hok0.dr, hok0.ch, hj⟩, hkn0.same s3, h3⟩
  have hS3 := hS2.same s3
  have hln := hok.len
  clear h3 hj hkn0 hok0 hS2 s3
  walk_at "w"
  refine ssx_cons (ps_set (i := 3) sc_law.nd rfl (Or.inl rfl) (pe_makeF T.mk_Net O_Net_init (hr.mono (by decide)) rfl T.g_Net pass0 (pa_cons (pv 1) (pa_cons (pv 2) (pa_cons (pe_lst (pa_cons pe_str (pa_cons pe_str pa_nil))) pa_nil))))) ?_
  walk_at "w"
  show tCons _ _ _ _ _
  walk_at "w"
  refine w_newL (by simp) fun l4 H4 hl4 s4 h4 => ?_
  walk_at "w"
  intro p dx hp hdx hne
  refine ⟨p, d, ia, l4, dx, N, H4, rfl, upd_same, hp, Same.mut (Same.alloc hdx) hp, hok, hkn.same s4, s4 _ _ hil, h4, fun H5 s5 hnet => ⟨rfl, ?_⟩⟩
  have s35 := s4.trans s5
  have hkn5 := hkn.same s35
  have hil5 := s35 _ _ hil
  have hS5 := hS3.same s35
  clear hkn hil hS3 h4 s4 s5 s35
  walk_at "w"
  by_cases hen : N.Ends
  rotate_left
  · refine ssx_cons (ps_if (PW.pt (pw_and (pt_val (pe_callF O_law_does_end (hr.mono (by decide)) rfl T.g__law_does_end pass0 (pa_cons (pv 1) pa_nil))) (pw_and1 (pt_not (pt_val (pe_callF O_law_is_quick (hr.mono (by decide)) rfl T.g__law_is_quick pass0 (pa_cons (pv 1) pa_nil))))))) SSX.ps SSX.ps) ?_
    walk_at "w"
    refine ⟨d, N, rfl, hkn5, hok, fun z => absurd z hen, fun _ H6 s6 => ?_⟩
    walk_at "w"
    refine ssx_nil ?_
    refine ssx_cons (ps_if (pt_not (pt_val (pe_callF O_law_does_end (hr.mono (by decide)) rfl T.g__law_does_end pass0 (pa_cons (pv 1) pa_nil)))) SSX.ps SSX.ps) ?_
    walk_at "w"
    refine ⟨d, N, rfl, hkn5.same s6, hok, fun z => absurd z hen, fun _ H7 s7 => ?_⟩
    walk_at "w"
    refine ssx_cons (ps_tryX (Wout := fun _ _ _ _ => False) rfl rfl ⟨rfl, rfl, .inl T.g_NeverEnds⟩ takes_none) ?_
    intro pn xe tk' po
    refine ssx_cons (ps_expr (pe_callFS O_settle1 (hr.mono (by decide)) rfl T.g_settle (passAt tk') (pa_cons (pv 3) (pa_cons (pe_disp (pps_cons pe_str pe_int pps_nil) rfl rfl (fun z => by cases z) (by decide)) pa_nil)))) ?_
    walk_at "w"
    refine w_callSD ?_
    walk_at "w"
    refine w_disp1 (k := "i") (v := .int 1) fun r8 H8 hr8 s8 h8 => ?_
    walk_at "w"
    exact ⟨p, N, .ref r8, .non, rfl, ((hnet.same s6).same s7).same s8, hok, .inl ⟨hen, fun H9 s9 => ⟨true, T.x_NeverEnds, fun _ a ha oe pn _ _ => ssx_cons (ps_ret pe_bl) (k _), fun z => nomatch z⟩⟩⟩
  refine ssx_cons (ps_if (PW.pt (pw_and (pt_val (pe_callF O_law_does_end (hr.mono (by decide)) rfl T.g__law_does_end pass0 (pa_cons (pv 1) pa_nil))) (pw_and1 (pt_not (pt_val (pe_callF O_law_is_quick (hr.mono (by decide)) rfl T.g__law_is_quick pass0 (pa_cons (pv 1) pa_nil))))))) SSX.ps SSX.ps) ?_
  walk_at "w"
  refine ⟨d, N, rfl, hkn5, hok, fun _ H6 s6 => ?_, fun z => absurd hen z⟩
  walk_at "w"
  refine ⟨d, N, rfl, hkn5.same s6, hok, fun b H7 s7 => ?_⟩
  have s57 := s6.trans s7
  have hkn7 := hkn5.same s57
  have hil7 := s57 _ _ hil5
  have hS7 := hS5.same s57
  have hnet7 := hnet.same s57
  clear hkn5 hil5 hS5 hnet s57 s6 s7
  walk_at "w"
  cases b with
  | false =>
    refine w_nfalse ?_
    refine ssx_cons (ps_ret pe_bl) ?_
    walk_at "w"
    exact k _
  | true =>
  refine w_ntrue ?_
  refine ssx_nil ?_
  refine ssx_cons (ps_if (pt_not (pt_val (pe_callF O_law_does_end (hr.mono (by decide)) rfl T.g__law_does_end pass0 (pa_cons (pv 1) pa_nil)))) SSX.ps SSX.ps) ?_
  walk_at "w"
  refine ⟨d, N, rfl, hkn7, hok, fun _ H8 s8 => ?_, fun z => absurd hen z⟩
  have hkn8 := hkn7.same s8
  have hil8 := s8 _ _ hil7
  have hS8 := hS7.same s8
  have hnet8 := hnet7.same s8
  clear hkn7 hil7 hS7 hnet7 s8
  walk_at "w"
  refine ssx_nil ?_
  obtain ⟨ka, hka, _⟩ := id hkn8
  refine ssx_cons (ps_set (i := 5) sc_law.nd rfl (Or.inl rfl) (pe_callTy (q_dictP K rfl) rfl T.f_dict bt_dict (pa_cons (pe_lc (own := [("_law_at", 17), ("_law_name", 4)]) rfl sc_law.nd (qi_enum K rfl T.f_enumerate (pa_cons (pe_callB (q_sortS K) rfl T.f_sorted bb_sorted (pa_cons (pe_callTy (k_listD rfl) rfl T.f_list bt_list (pa_cons (pv 1) pa_nil)) pa_nil)) pa_nil)) (blkOk_by (N := N_law) (sc := defScope s_law) (by decide +kernel)) (fun _ _ _ _ _ => (qg_tup (n := 2) K rfl (pgs_cons (pg_name (i := 17) sc_law.nd rfl (Or.inl rfl)) (pgs_cons (pg_name (i := 4) sc_law.nd rfl (Or.inl rfl)) pgs_nil)))) (fun _ _ _ _ _ => pts_nil) (fun _ _ _ _ _ => (pe_tup (pa_cons (pv 4) (pa_cons (pe_callF O_law_draw (hr.mono (by decide)) rfl T.g__law_draw pass0 (pa_cons (pv 0) (pa_cons (pe_op op_add pe_int (pv 17)) (pa_cons (pe_op op_add (pe_callB (q_len K) rfl T.f_len bb_len (pa_cons (pe_ix (q_ixT K) (pe_dget hu (pv 1) (pv 4) (fun _ _ => rfl)) pe_int (fun _ _ => rfl)) pa_nil)) (pe_callB (q_len K) rfl T.f_len bb_len (pa_cons (pe_ix (q_ixT K) (pe_dget hu (pv 1) (pv 4) (fun _ _ => rfl)) pe_int (fun _ _ => rfl)) pa_nil))) pa_nil)))) pa_nil))))) pa_nil))) ?_
  walk_at "w"
  refine w_listD hka fun l1 H9 hl1 s9 h9 => ?_
  walk_at "w"
  refine w_sortS (ks := N.names) (xs := N.names) (sqL h9) (by omega) (List.Perm.refl _) (names_sorted hok) fun l2 HA hl2 sA hA => ?_
  walk_at "w"
  have s8A := s9.trans sA
  refine rlc (walk_enum (xs := N.names.map V.str)) (fun D i acc HB => ∃ (qs : List Addr) (g : Str → Nat), acc = qs.map V.ref ∧ D ∉ qs ∧ Paired (fun q k => HB q = some (.tup [.str k, .int (g k : Int)])) qs (N.names.take i) ∧ ∀ k ∈ N.names.take i, g k < N.len k) (by rw [List.length_map]; omega) (fun H' s' => sqL (s' _ _ hA)) (fun D HB _ _ _ => ⟨[], fun _ => 0, rfl, by simp, by simp; exact .nil, by simp⟩) ?_ ?_ ?_
  · rintro D i acc HB HC ⟨qs, g, rfl, hD, hPq, hg⟩ hk
    refine ⟨qs, g, rfl, hD, ?_, hg⟩
    have key : ∀ {as : List Addr} {bs : List Str}, Paired (fun q k => HB q = some (.tup [.str k, .int (g k : Int)])) as bs → D ∉ as → Paired (fun q k => HC q = some (.tup [.str k, .int (g k : Int)])) as bs := by
      intro as bs h
      induction h with
      | nil => exact fun _ => .nil
      | cons r _ ih => exact fun hd => .cons (hk _ _ (fun z => hd (by simp [z])) r) (ih fun z => hd (List.mem_cons_of_mem _ z))
    exact key hPq hD
  · rintro D i acc x HB HC hi _ hD hDl sB ⟨qs, g, rfl, hDq, hPq, hg⟩ ⟨T2, _, y2, rfl, hT2, rfl, e0, ey⟩ KT KF hKT _
    cases e0
    obtain ⟨y, hy, rfl⟩ := map_get ey
    rw [List.length_map] at hi
    have hyn := List.mem_of_getElem? hy
    refine g_pair ?_
    refine ⟨rfl, ?_⟩
    have eC : Same HB (upd HB T2 (.tup [.int (i : Nat), .str y])) := Same.alloc hT2
    have s8C := s8A.trans (sB.trans eC)
    generalize upd HB T2 (.tup [.int (i : Nat), .str y]) = HC at *
    walk_at "w"
    obtain ⟨kv, fa, ta, k1, k2, ⟨fs, f1, f2⟩, ⟨ds, t1, t2⟩⟩ := NetAt.knot (hkn8.same s8C) hyn
    have hfs := paired_len f2
    have hds := paired_len t2
    have htl := hok.tl y hyn
    have hfl := hok.fl y hyn
    have hlen : N.len y = (N.fr y).length + (N.tn y).length := by unfold NetD.len NetD.rows; rw [List.length_append]
    refine w_getK k1 hyn ?_
    walk_at "w"
    refine w_ixT (v := .ref fa) k2 rfl ?_
    walk_at "w"
    refine w_getK k1 hyn ?_
    walk_at "w"
    refine w_ixT (v := .ref ta) k2 rfl ?_
    walk_at "w"
    refine draw_use (hS8.same s8C) ⟨by omega, by omega⟩ ⟨by rw [List.length_map, List.length_map]; omega, by rw [List.length_map, List.length_map]; omega⟩ fun r HE hrl sE => ?_
    rw [List.length_map, List.length_map] at hrl
    walk_at "w"
    refine w_newT (by simp) fun q HF hq sF hF => ?_
    have sCF := sE.trans sF
    have hyt : y ∉ N.names.take i := not_take hok.nodup hy
    refine hKT _ _ (eC.trans sCF) ⟨qs ++ [q], up g y r, by simp, ?_, ?_, fun k hk => ?_⟩
    · intro z
      rcases List.mem_append.mp z with z | z
      · exact hDq z
      · have e1 := (eC.trans sE) _ _ hDl
        rw [List.mem_singleton.mp z] at e1
        rw [e1] at hq; cases hq
    · rw [take_snoc hy]
      have key : ∀ {as : List Addr} {bs : List Str}, Paired (fun q k => HB q = some (.tup [.str k, .int (g k : Int)])) as bs → y ∉ bs → Paired (fun q k => HF q = some (.tup [.str k, .int ((up g y r k : Nat) : Int)])) as bs := by
        intro as bs h
        induction h with
        | nil => exact fun _ => .nil
        | @cons a b as bs e _ ih =>
          intro hn
          refine .cons ?_ (ih fun z => hn (List.mem_cons_of_mem _ z))
          rw [show up g y r b = g b from NetD.up_ne fun z => hn (by simp [z])]
          exact (eC.trans sCF) _ _ e
      refine paired_snoc (key hPq hyt) ?_
      rw [show up g y r y = r from NetD.up_same]
      exact hF
    · rw [take_snoc hy] at hk
      rcases List.mem_append.mp hk with hk | hk
      · rw [show up g y r k = g k from NetD.up_ne fun z => hyt (z ▸ hk)]
        exact hg k hk
      · rw [List.mem_singleton.mp hk, show up g y r y = r from NetD.up_same]
        omega
  rintro D acc HB hD sB hB _ ⟨qs, p0, rfl, _, hPq, hplt⟩
  rw [List.length_map, List.take_length] at hPq hplt
  walk_at "w"
  refine w_dictPs (sqL hB) (paired_imp hPq fun _ _ e => sqT e) hok.nodup fun sd HC hsd sC hCs => ?_
  have s8C := s8A.trans (sB.trans sC)
  have hknC := hkn8.same s8C
  have hilC := s8C _ _ hil8
  have hSC := hS8.same s8C
  have hnetC := hnet8.same s8C
  clear hkn8 hil8 hS8 hnet8 s8A s9 sA sB sC hPq hB h9 hA s8C hka
  walk_at "w"
  refine ssx_cons (ps_set (i := 6) sc_law.nd rfl (Or.inl rfl) (pe_disp (pps_cons pe_str (pe_callF O_law_draw (hr.mono (by decide)) rfl T.g__law_draw pass0 (pa_cons (pv 0) (pa_cons pe_int (pa_cons pe_int pa_nil)))) (pps_cons pe_str (pe_callF O_law_draw (hr.mono (by decide)) rfl T.g__law_draw pass0 (pa_cons (pv 0) (pa_cons pe_int (pa_cons pe_int pa_nil)))) (pps_cons pe_str (pe_callF O_law_draw (hr.mono (by decide)) rfl T.g__law_draw pass0 (pa_cons (pv 0) (pa_cons pe_int (pa_cons pe_int pa_nil)))) pps_nil))) rfl rfl (fun z => by cases z) (by decide))) ?_
  walk_at "w"
  intro bd hbd
  have sD : Same HC (upd HC bd (.dK [])) := Same.alloc hbd
  have hD1 : (upd HC bd (.dK [])) bd = some (.dK []) := upd_same
  generalize upd HC bd (.dK []) = HD at *
  refine w_c ?_
  walk_at "w"
  refine draw_use (hSC.same sD) ⟨by omega, by omega⟩ ⟨by omega, by omega⟩ fun b1 HE _ sE => ?_
  refine w_c ?_
  walk_at "w"
  refine draw_use (hSC.same (sD.trans sE)) ⟨by omega, by omega⟩ ⟨by omega, by omega⟩ fun b2 HF _ sF => ?_
  refine w_c ?_
  walk_at "w"
  refine draw_use (hSC.same (sD.trans (sE.trans sF))) ⟨by omega, by omega⟩ ⟨by omega, by omega⟩ fun b3 HG _ sG => ?_
  have sDG := sE.trans (sF.trans sG)
  refine ⟨sDG _ _ hD1, [((Sum.inr ("i" : Str) : Key), V.int (b1 : Int)), (Sum.inr ("j" : Str), V.int (b2 : Int)), (Sum.inr ("a" : Str), V.int (b3 : Int))], rfl, by simp, ?_⟩
  obtain ⟨bl, hbl⟩ : ∃ bl : Str → Nat, bl = fun (k : Str) => if k = ("i" : Str) then b1 else if k = ("j" : Str) then b2 else b3 := ⟨_, rfl⟩
  have sH : Same HC (upd HG bd (.dK (mergeK [] [((Sum.inr ("i" : Str) : Key), V.int (b1 : Int)), (Sum.inr ("j" : Str), V.int (b2 : Int)), (Sum.inr ("a" : Str), V.int (b3 : Int))]))) := Same.mut (sD.trans sDG) hbd
  have hHb : (upd HG bd (.dK (mergeK [] [((Sum.inr ("i" : Str) : Key), V.int (b1 : Int)), (Sum.inr ("j" : Str), V.int (b2 : Int)), (Sum.inr ("a" : Str), V.int (b3 : Int))]))) bd = some (DI lks fun k => (bl k : Int)) := by
    have e : [((Sum.inr ("i" : Str) : Key), V.int (b1 : Int)), (Sum.inr ("j" : Str), V.int (b2 : Int)), (Sum.inr ("a" : Str), V.int (b3 : Int))] = mapK lks fun k => V.int (bl k : Int) := by
      have h1 : ¬ (("j" : Str) = "i") := by decide +kernel
      have h2 : ¬ (("a" : Str) = "i") := by decide +kernel
      have h3 : ¬ (("a" : Str) = "j") := by decide +kernel
      simp [mapK, hbl, h1, h2, h3]
    rw [upd_same, e, merge_new _ _ (by decide +kernel)]
  generalize upd HG bd (.dK (mergeK [] [((Sum.inr ("i" : Str) : Key), V.int (b1 : Int)), (Sum.inr ("j" : Str), V.int (b2 : Int)), (Sum.inr ("a" : Str), V.int (b3 : Int))])) = HH at *
  have hknH := hknC.same sH
  have hilH := sH _ _ hilC
  have hSH := hSC.same sH
  have hnetH := hnetC.same sH
  have hsdH := sH _ _ hCs
  have hblH : BlAt HH bd N lks bl := ⟨hHb, by simp, fun k hk => by
    simp only [List.mem_cons, List.not_mem_nil, or_false] at hk
    rcases hk with rfl | rfl | rfl
    · exact ⟨by decide +kernel, .inl rfl⟩
    · exact ⟨by decide +kernel, .inr (.inl rfl)⟩
    · exact ⟨by decide +kernel, .inr (.inr hok.a_in)⟩⟩
  clear hknC hilC hSC hnetC hCs sD sE sF sG sDG sH hD1 hHb hbl
  walk_at "w"
  refine ssx_cons (ps_asg (pe_callF O_law_play (hr.mono (by decide)) rfl T.g__law_play pass0 (pa_cons (pv 0) (pa_cons pe_int (pa_cons (pv 1) (pa_cons (pv 5) (pa_cons (pe_callF O_law_waiting (hr.mono (by decide)) rfl T.g__law_waiting pass0 (pa_cons (pv 2) (pa_cons (pv 6) pa_nil))) (pa_cons pe_int pa_nil))))))) (qg_tup (n := 4) K rfl (pgs_cons (pg_name (i := 7) sc_law.nd rfl (Or.inl rfl)) (pgs_cons (pg_name (i := 8) sc_law.nd rfl (Or.inl rfl)) (pgs_cons (pg_name (i := 9) sc_law.nd rfl (Or.inl rfl)) (pgs_cons (pg_name (i := 10) sc_law.nd rfl (Or.inl rfl)) pgs_nil)))))) ?_
  walk_at "w"
  refine ⟨ia, bd, N, lks, bl, rfl, hilH, hblH, hok, by decide +kernel, fun wd ws HI sI hwd hIw hzr _ hwn => ?_⟩
  walk_at "w"
  have hsdI := sI _ _ hsdH
  refine ⟨sc, d, sd, wd, 320, 1500, N, p0, bsum N bl lks, ws, rfl, hSH.same sI, by omega, by omega, hknH.same sI, hok, hsdI, hplt, hIw, hzr, hwn, fun t x y z HJ sJ hJt => ?_, fun t tk od lt us HJ sJ hJt hJk hJo hJl hfull _ => ?_⟩
  · refine w_tu (sqT hJt) rfl ?_
    walk_at "w"
    refine ssx_cons (ps_if (pt_not (pt_val (pv 10))) SSX.ps SSX.ps) ?_
    walk_at "w"
    refine ssx_cons (ps_ret pe_bl) ?_
    walk_at "w"
    exact k _
  · refine w_tu (sqT hJt) rfl ?_
    walk_at "w"
    refine ssx_cons (ps_if (pt_not (pt_val (pv 10))) SSX.ps SSX.ps) ?_
    walk_at "w"
    refine ssx_nil ?_
    have sHJ := sI.trans sJ
    exact next N bl p0 us d ia p bd sd tk od lt HJ ⟨hok, hen, hfull⟩ ⟨hknH.same sHJ, sHJ _ _ hilH, hnetH.same sHJ, hblH.same sHJ, ⟨N.names, sHJ _ _ hsdH, rfl, fun _ h => h, hplt⟩, hJk, hJo, hJl⟩
end
end K1
namespace K1
open PySem PySem.Spec L2
open PyProof.Rows hiding St
section
variable {P : Program} {w : World} {K : PySem.W.Frag} {mg : Str → Option Value} {base : Heap}
theorem fn_law_ok (T : TX K mg) (B : BoOk P K) {fd : FuncData} (F : FunD K "law" "law" (defArgs s_law) (defBody s_law) (defScope s_law) [] [] (He.ga K "law") fd) : FnOk P w K mg base CX0 9 (He.ga K "law") fd ["_law_script"] (spLaw K) := by
  refine F.ok sc_law (fun vs H Q E h => ?_) (fun cdv A outer s H vs Q E hr h => ?_)
  · obtain ⟨_, rfl, _⟩ := h
    rfl
  obtain ⟨sc, rfl, hS, k⟩ := h
  refine ssx_nox ?_
  have hB : BadRule P K mg := bad_rule T B
  exact law_A T hr hS k fun N bl p0 us d ia p bd sd tk od lt H1 hP C => law_B T hB hr hP C fun f ord H2 C2 hS2 hSet => law_C T hr hP C2 hS2 fun f1 f2 H3 C3 hS3 => law_D T hr hP C3 hS3 fun tu H4 C4 hS4 => law_E T B hr hP C4 hS4 hSet fun o4 o15 H5 C5 hS5 => law_F T hr hP C5 hS5 k
end
end K1
namespace K1
open PySem PySem.Spec L2
open PyProof.Rows hiding St
theorem facts {w : World} {K : PySem.W.Frag} {h : Heap} {mg : Str → Option Value} {f : Addr} (X : K.In h) (G : h.Ns mainGlobals mg) (hfa : mg ("law" : Str) = some (.ref f)) (c : obsX K = valX) :
    ∃ fd : FuncData, (∀ (s : Shared) (v : Value), BindsTo s fd ⟨[v], []⟩ [("_law_script", v)]) ∧ ∀ base : Heap, K.In base → base.Ns mainGlobals mg → FnOk R.prog w K mg base CX0 9 f fd ["_law_script"] (spLaw K) := by
  obtain ⟨T, B⟩ := tx_of X G c
  obtain ⟨fd, F⟩ := T.fn_law
  have e := hfa.symm.trans T.g_law
  cases e
  have b := FunD.bindsA (ps := ["_law_script"]) F fun _ _ _ _ _ _ us hl => match us, hl with | [_], _ => rfl
  exact ⟨fd, fun s v => b s [v] rfl, fun base _ _ => fn_law_ok T B F⟩
end K1
open PySem PySem.W PySem.Calls PyProof.Rows
set_option maxHeartbeats 0 in
theorem PySem.Challenge.cw_ballchutes_k01_whole_orders_holds : PySem.Challenge.rw_ballchutes_k01_whole_orders.Holds := by
  w_on; o_law
  refine HandSHeadRun.head_any (r := OpenLaw.row PySem.Challenge.rw_ballchutes_k01_whole_orders) (q := K1.qv) (H := K1.hk) (ob := K1.ob) (M := 4000) (loose := K1.names) (d := K1.dL) (kwd := []) K1.ob_eq
    K1.h_open K1.h_fence K1.run K1.h_def K1.h_the K1.h_kw (by rfl) (by first | assumption | decide +kernel) K1.h_ok K1.h_bare ?hw ?hc
  case hw => w_witness2
  case hc =>
    refine L2.walk_ofE (l := PySem.Challenge.rw_ballchutes_k01_whole_orders) (n := 63) (k := 9) (x := "_law_script") (CX := L2.CX0) rfl (by decide) K1.h_dfl ⟨rfl, by decide, by decide⟩ ?F (fun _ _ _ _ z => z)
    intro w mg fa h Y G hmg0
    obtain ⟨K, KX, c⟩ := Y
    have hmg : mg ("law" : PySem.Str) = some (.ref fa) := by
      rw [← K1.h_name]
      exact hmg0
    obtain ⟨fd, hb, hF⟩ := K1.facts (w := w) KX G hmg c
    exact ⟨K, fd, K1.spLaw K, KX, hb, fun H a ns hl _ hS => ⟨a, rfl, ⟨ns, hS, hl⟩, fun _ => rfl⟩, hF⟩
